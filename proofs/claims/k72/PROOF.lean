import PyProof.Rows.All
import Wide.All
import OpenK.AllK
import Wide.FinOn
import HandS.ForMost
import HandS.Wide
import HandS.Deep
import HandS.Style
import HandS.IsInst
import HandS.ForExc
import HandS.TupAny
import HandS.TupMul
import HandS.TupLe
import KE.KTupSum
import HandS.SortOrd
import HandS.SortInts
import HandS.SortRule
import HandS.Conv
import HandS.DictTup
import KE.KDictSum
import HandS.TupLen
import HandS.WordsDict
import HandS.CallSlots
import HandS.Defaults
import HandS.Zip
import HandS.TryOnly
import HandS.DictComp
import HandS.SetFor
import HandS.ExcField
import HandS.Small
import HandS.ExcIs
import KE.KExcIs
import HandS.ExcInit
import HandS.WordsExc
import HandS.Ends
import PySem.Challenge.RW_frameshold_k72_whole_folded_rulers
set_option Elab.async false
set_option linter.all false
set_option maxRecDepth 100000
set_option maxHeartbeats 8000000
set_option Elab.async false
set_option linter.all false
set_option maxRecDepth 100000
namespace PL
open PySem PySem.Spec PyProof.Rows L2

/-- pure values; a dict's keys: the items of a tuple (b), or one alone -/
inductive PV where
  | non | bl (b : Bool) | int (i : Int) | str (x : Str) | ty (n : String)
  | tup (xs : List PV) | lst (xs : List PV)
  | scr (xs : List Int)
  | obj (C : Str) (fs : List (Str × PV))
  | dct (b : Bool) (kvs : List (List L2.Key × PV))
  | dcl (kvs : List (List L2.Key × PV))

/-- what a slot owns -/
inductive Cell where
  | fz (p : PV)
  | lst (xs : List PV)
  | ls (cs : List Cell)
  | dct (b : Bool) (kvs : List (List L2.Key × PV))
  | obj (C : Str) (fs : List (Str × Cell))
mutual
def Cell.pv : Cell → PV
  | .fz p => p
  | .lst xs => .lst xs
  | .ls cs => .lst (pvs cs)
  | .dct b kvs => .dct b kvs
  | .obj C fs => .obj C (pvf fs)
def pvs : List Cell → List PV
  | [] => []
  | c :: cs => c.pv :: pvs cs
def pvf : List (Str × Cell) → List (Str × PV)
  | [] => []
  | (f, c) :: r => (f, c.pv) :: pvf r
end
abbrev Env := List (Option Cell)
/-- a step into a cell -/
inductive PSt where
  | ix (n : Nat) | at (f : Str)
inductive RV where
  | val (p : PV) | loc (j : Nat) | new (c : Cell)
  | brw (j : Nat) (p : List PSt) (c : Cell)
inductive Arg where
  | val (p : PV) | own (c : Cell)

inductive Res (α : Type) where
  | ok (a : α) | exc (C : Str) (fs : List (Str × PV)) (env : Env) | stuck
@[inline] def Res.bind {α β : Type} (x : Res α) (f : α → Res β) : Res β := match x with
  | .ok a => f a
  | .exc C fs env => .exc C fs env
  | .stuck => .stuck
/-- what a call gives -/
inductive FRes where
  | ok (r : RV) (out : Option Cell) | exc (C : Str) (fs : List (Str × PV)) | stuck

inductive Bop | add | sub | mul | fdiv | mod | pow | shl | shr | band | bor | bxor
  deriving DecidableEq
inductive Cop | eq | ne | lt | le | gt | ge | is | isn | mem | nmem
  deriving DecidableEq

mutual
inductive E where
  | bad
  | var (i : Nat)
  | con (p : PV)
  | gco (x : Str)
  | bop (o : Bop) (a b : E)
  | neg (a : E)
  | not (a : E)
  | and (a b : E)
  | or (a b : E)
  | cmp (o : Cop) (a b : E)
  | chn (o o' : Cop) (a b c : E)
  | chn3 (o o' o'' : Cop) (a b c d : E)
  | ite (t a b : E)
  | tup (es : Es)
  | lst (es : Es)
  | call (f : Str) (es : Es)
  | calm (f : Str) (i : Nat) (es : Es)
  | blt (f : Str) (es : Es)
  | mk (C : Str) (es : Es)
  | mth (m : Str) (o : E) (es : Es)
  | omt (m : Str) (o : E) (es : Es)
  | mthm (m : Str) (i : Nat) (es : Es)
  | att (o : E) (f : Str)
  | ix (o i : E)
  | sl (o : E) (lo hi : E)
  | rev (o : E)
  | lc (own : List Nat) (t : Tg) (it : E) (c : E) (e : E)
  | ln (own : List Nat) (t : Tg) (it : E) (c : E) (e : E)
  | dc (b : Bool) (own : List Nat) (t : Tg) (it : E) (c : E) (k v : E)
  | lc2 (own own2 : List Nat) (t : Tg) (it : E) (c : E) (t2 : Tg) (it2 : E) (c2 : E) (e : E)
  | dc2 (b : Bool) (own own2 : List Nat) (t : Tg) (it : E) (c : E) (t2 : Tg) (it2 : E) (c2 : E) (k v : E)
  | dnew (b : Bool)
  | dsp (b : Bool) (k v : E)
  | frz (e : E)
  | lck (e : E)
  | seq (f : Str) (it : E)
  | sset (f : Str) (e : E)
  | mink (t : Nat) (xs e : E)
inductive Es where
  | nil | cons (e : E) (es : Es)
/-- targets -/
inductive Tg where
  | nm (i : Nat) | tup (ts : Tgs) | ix (o i : E) | att (o : E) (f : Str)
inductive Tgs where
  | nil | cons (t : Tg) (ts : Tgs)
end

/-! reading -/
def get (env : Env) (i : Nat) : Option Cell := (env[i]?).join
/-- the part of a cell -/
def getC : Cell → List PSt → Option Cell
  | c, [] => some c
  | .ls cs, .ix n :: p => match cs[n]? with
    | some c => getC c p
    | none => none
  | .obj _ fs, .at f :: p => match fs.lookup f with
    | some c => getC c p
    | none => none
  | _, _ :: _ => none
def setF (f : Str) (c : Cell) : List (Str × Cell) → List (Str × Cell)
  | [] => []
  | (g, d) :: r => if f == g then (g, c) :: r else (g, d) :: setF f c r
def setC : Cell → List PSt → Cell → Cell
  | _, [], d => d
  | .ls cs, .ix n :: p, d => match cs[n]? with
    | some c => .ls (cs.set n (setC c p d))
    | none => .ls cs
  | .obj C fs, .at f :: p, d => match fs.lookup f with
    | some c => .obj C (setF f (setC c p d) fs)
    | none => .obj C fs
  | c, _ :: _, _ => c
/-- nothing within is owned -/
def isFz : Cell → Bool
  | .fz _ => true
  | _ => false
def flat : Cell → Bool
  | .ls cs => cs.all isFz
  | .obj _ fs => fs.all fun q => isFz q.2
  | _ => true
/-- the cell that is meant -/
def vwC (env : Env) : RV → Option Cell
  | .val p => some (.fz p)
  | .loc j => get env j
  | .new c => some c
  | .brw _ p c => getC c p
/-- the value as it may be read, its parts kept -/
def rd (env : Env) (r : RV) : Option PV := match vwC env r with
  | some c => if flat c = true then some c.pv else none
  | none => none
/-- .. looked at alone -/
def rdH (env : Env) (r : RV) : Option PV := match vwC env r with
  | some c => some c.pv
  | none => none
/-- what was borrowed goes back -/
def unb : RV → Env → Env
  | .brw j _ c, env => env.set j (some c)
  | _, env => env
/-- taken for good -/
def take : RV → Env → Option (PV × Env)
  | .val p, env => some (p, env)
  | .loc j, env => match get env j with
    | some c => some (c.pv, env.set j (some (.fz c.pv)))
    | none => none
  | .new c, env => some (c.pv, env)
  | .brw j p c, env => match getC c p with
    | some d => some (d.pv, env.set j (some (setC c p (.fz d.pv))))
    | none => none
end PL
set_option Elab.async false
set_option linter.all false
set_option maxRecDepth 100000
namespace PL
open PySem PySem.Spec PyProof.Rows L2

/-! ### what operations do with values -/
/-- a result: a plain value, a new tuple, a new list -/
inductive VR where
  | sc (p : PV) | tup (ps : List PV) | lst (ps : List PV) | srt (ps : List PV)

mutual
def toD : PV → Option PyData
  | .non => some .none
  | .bl b => some (.bool b)
  | .int i => some (.int i)
  | .str x => some (.str x)
  | .ty _ => none
  | .tup xs => (toDs xs).map .tuple
  | .lst xs => (toDs xs).map .list
  | .scr _ => none
  | .obj _ _ => none
  | .dct _ _ => none
  | .dcl _ => none
def toDs : List PV → Option (List PyData)
  | [] => some []
  | x :: xs => match toD x, toDs xs with
    | some d, some ds => some (d :: ds)
    | _, _ => none
end
/-- data that may be compared -/
def shp (p : PV) : Bool := match toD p with
  | some d => SeqAt.shaped d
  | none => false
def eqP (p q : PV) : Bool := match toD p, toD q with
  | some d, some e => PyData.eqv d e
  | _, _ => false

/-! keys -/
def keyA : PV → Option L2.Key
  | .int i => some (.inl i)
  | .str x => some (.inr x)
  | _ => none
def keyAs : List PV → Option (List L2.Key)
  | [] => some []
  | p :: r => match keyA p, keyAs r with
    | some k, some ks => some (k :: ks)
    | _, _ => none
def keyP (b : Bool) (p : PV) : Option (List L2.Key) := match b, p with
  | false, p => (keyA p).map fun k => [k]
  | true, .tup ps => keyAs ps
  | true, _ => none
def ofA : L2.Key → PV
  | .inl i => .int i
  | .inr x => .str x
def ofK (b : Bool) (k : List L2.Key) : PV := match b, k with
  | false, [k] => ofA k
  | _, k => .tup (k.map ofA)
def dGet (kvs : List (List L2.Key × PV)) (k : List L2.Key) : Option PV := (kvs.find? fun kv => decide (kv.1 = k)).map (·.2)
def dHas (kvs : List (List L2.Key × PV)) (k : List L2.Key) : Bool := kvs.any fun kv => decide (kv.1 = k)
def dPut (kvs : List (List L2.Key × PV)) (k : List L2.Key) (v : PV) : List (List L2.Key × PV) :=
  if dHas kvs k = true then kvs.map (fun kv => if kv.1 = k then (kv.1, v) else kv) else kvs ++ [(k, v)]

def mulOk (i j : Int) : Bool := decide (i.natAbs.log2 + j.natAbs.log2 < 100000000)

def bopV : Bop → PV → PV → Option VR
  | .add, .int i, .int j => some (.sc (.int (i + j)))
  | .sub, .int i, .int j => some (.sc (.int (i - j)))
  | .mul, .int i, .int j => if mulOk i j = true then some (.sc (.int (i * j))) else none
  | .fdiv, .int i, .int j => if j ≠ 0 ∧ Builtin.divisionGoesByPylong i j = false then some (.sc (.int (i.fdiv j))) else none
  | .mod, .int i, .int j => if j ≠ 0 then some (.sc (.int (i.fmod j))) else none
  | .pow, .int i, .int j => if 0 ≤ j ∧ j ≤ 1000000 ∧ i.natAbs < 2 ^ 64 then some (.sc (.int (i ^ j.toNat))) else none
  | .shl, .int i, .int j => if 0 ≤ j ∧ j ≤ 1000000 ∧ i.natAbs < 2 ^ 64 then some (.sc (.int (i * 2 ^ j.toNat))) else none
  | .shr, .int i, .int j => if 0 ≤ j then some (.sc (.int (i / 2 ^ j.toNat))) else none
  | .band, .int i, .int j => some (.sc (.int (Builtin.bitAnd i j)))
  | .add, .tup xs, .tup ys => if xs.length + ys.length ≤ sizeLine then some (.tup (xs ++ ys)) else none
  | .add, .lst xs, .lst ys => if xs.length + ys.length ≤ sizeLine then some (.lst (xs ++ ys)) else none
  | .mul, .lst xs, .int k => if -(2 ^ 63) ≤ k ∧ k < 2 ^ 63 ∧ xs.length * k.toNat ≤ sizeLine then some (.lst (List.replicate k.toNat xs).flatten) else none
  | .mul, .tup xs, .int k => if xs ≠ [] ∧ 2 ≤ k ∧ k ≤ 1000 ∧ xs.length ≤ 1000 then some (.tup (List.replicate k.toNat xs).flatten) else none
  | _, _, _ => none

def isNon : PV → Bool
  | .non => true
  | _ => false
/-- is c within items -/
def memP (xs : List PV) (p : PV) : Bool := xs.any fun z => eqP z p
def copV : Cop → PV → PV → Option Bool
  | .eq, p, q => if shp p = true ∧ shp q = true then some (eqP p q) else none
  | .ne, p, q => if shp p = true ∧ shp q = true then some (!eqP p q) else none
  | .lt, .int i, .int j => some (decide (i < j))
  | .le, .int i, .int j => some (decide (i ≤ j))
  | .gt, .int i, .int j => some (decide (j < i))
  | .ge, .int i, .int j => some (decide (j ≤ i))
  | .is, p, .non => some (isNon p)
  | .isn, p, .non => some (!isNon p)
  | .is, .bl a, .bl b => some (decide (a = b))
  | .isn, .bl a, .bl b => some (!decide (a = b))
  | .mem, p, .tup xs => if shp p = true ∧ shp (.tup xs) = true then some (memP xs p) else none
  | .mem, p, .lst xs => if shp p = true ∧ shp (.lst xs) = true then some (memP xs p) else none
  | .nmem, p, .tup xs => if shp p = true ∧ shp (.tup xs) = true then some (!memP xs p) else none
  | .nmem, p, .lst xs => if shp p = true ∧ shp (.lst xs) = true then some (!memP xs p) else none
  | .mem, p, .dct b kvs => (keyP b p).map fun k => dHas kvs k
  | .nmem, p, .dct b kvs => (keyP b p).map fun k => !dHas kvs k
  | .mem, p, .dcl kvs => (keyP false p).map fun k => dHas kvs k
  | .nmem, p, .dcl kvs => (keyP false p).map fun k => !dHas kvs k
  | _, _, _ => none

def truP : PV → Option Bool
  | .non => some false
  | .bl b => some b
  | .int i => some (i != 0)
  | .tup xs => some (!xs.isEmpty)
  | .lst xs => some (!xs.isEmpty)
  | _ => none
def lenP : PV → Option Nat
  | .tup xs => some xs.length
  | .lst xs => some xs.length
  | .scr xs => some xs.length
  | .dct _ kvs => some kvs.length
  | _ => none
def ixP : PV → PV → Option PV
  | .tup xs, .int i => atI xs i
  | .lst xs, .int i => atI xs i
  | .dct b kvs, k => (keyP b k).bind fun k => dGet kvs k
  | .dcl kvs, k => (keyP false k).bind fun k => dGet kvs k
  | _, _ => none
def cutP (xs : List PV) (lo hi : Option Int) : List PV := (xs.drop (HT.sIx xs.length 0 lo)).take (HT.sIx xs.length xs.length hi - HT.sIx xs.length 0 lo)
def slP : PV → Option Int → Option Int → Option VR
  | .tup xs, lo, hi => some (.tup (cutP xs lo hi))
  | .lst xs, lo, hi => some (.lst (cutP xs lo hi))
  | _, _, _ => none

def asInts : List PV → Option (List Int)
  | [] => some []
  | .int i :: r => (asInts r).map (i :: ·)
  | _ :: _ => none
def asBls : List PV → Option (List Bool)
  | [] => some []
  | .bl i :: r => (asBls r).map (i :: ·)
  | _ :: _ => none
/-- isinstance -/
def isiP (p : PV) (T : String) : Option Bool := match p, T with
  | .non, "int" => some false | .non, "bool" => some false | .non, "str" => some false | .non, "tuple" => some false | .non, "list" => some false | .non, "dict" => some false
  | .bl _, "int" => some true | .bl _, "bool" => some true | .bl _, "str" => some false | .bl _, "tuple" => some false | .bl _, "list" => some false | .bl _, "dict" => some false
  | .int _, "int" => some true | .int _, "bool" => some false | .int _, "str" => some false | .int _, "tuple" => some false | .int _, "list" => some false | .int _, "dict" => some false
  | .str _, "int" => some false | .str _, "bool" => some false | .str _, "str" => some true | .str _, "tuple" => some false | .str _, "list" => some false | .str _, "dict" => some false
  | .tup _, "int" => some false | .tup _, "bool" => some false | .tup _, "str" => some false | .tup _, "tuple" => some true | .tup _, "list" => some false | .tup _, "dict" => some false
  | .lst _, "int" => some false | .lst _, "bool" => some false | .lst _, "str" => some false | .lst _, "tuple" => some false | .lst _, "list" => some true | .lst _, "dict" => some false
  | _, _ => none
/-- the items of what is walked -/
def itemsP : PV → Option (List PV)
  | .tup xs => some xs
  | .lst xs => some xs
  | .scr xs => some (xs.map .int)
  | .dcl kvs => if kvs.length ≤ sizeLine then some (kvs.map fun kv => ofK false kv.1) else none
  | _ => none

/-! order of numbers, and of tuples of such -/
mutual
def cmpP : PV → PV → Option Ordering
  | .int i, .int j => some (if i < j then .lt else if i = j then .eq else .gt)
  | .tup xs, .tup ys => cmpPs xs ys
  | _, _ => none
def cmpPs : List PV → List PV → Option Ordering
  | [], [] => some .eq
  | [], _ :: _ => some .lt
  | _ :: _, [] => some .gt
  | x :: xs, y :: ys => match cmpP x y with
    | some .eq => cmpPs xs ys
    | r => r
end
def ltB (x y : PV) : Bool := cmpP x y == some .lt
def insP (x : PV) : List PV → List PV
  | [] => [x]
  | y :: r => if ltB y x = true then y :: insP x r else x :: y :: r
def isortP : List PV → List PV
  | [] => []
  | x :: r => insP x (isortP r)
/-- all pairs compare -/
def cmpAll (xs : List PV) : Bool := xs.all fun x => xs.all fun y => (cmpP x y).isSome
def addP (ks : List PV) (k : PV) : List PV := if memP ks k = true then ks else ks ++ [k]
/-- what may be sorted: ints, or tuples of ints that are not empty -/
def isRow : PV → Bool
  | .tup (p :: ps) => (asInts (p :: ps)).isSome
  | _ => false
def srtOk (xs : List PV) : Bool := (asInts xs).isSome || xs.all isRow
end PL
set_option Elab.async false
set_option linter.all false
set_option maxRecDepth 100000
namespace PL
open PySem PySem.Spec PyProof.Rows L2

inductive Fl where
  | nx | bk | ct | rt (r : RV)
/-- what stands in an except suite -/
inductive HE where
  | con (p : PV) | fld (f : Str) | isi (C : Str) | ite (C : Str) (a b : HE)
inductive Hd where
  | ret (h : HE) | pass | cont
mutual
inductive S where
  | bad
  | expr (e : E)
  | asg (t : Tg) (e : E)
  | asa (o : E) (f : Str) (e : E)
  | par2 (i j : Nat) (a b : E)
  | par3 (i j k : Nat) (a b c : E)
  | aug (i : Nat) (o : Bop) (e : E)
  | augx (o i : E) (b : Bop) (e : E)
  | ite (t : E) (a b : Ss)
  | forr (t : Tg) (it : E) (b : Ss)
  | whl (t : E) (b : Ss)
  | ret (e : E)
  | retn
  | rai (C : Str)
  | raw (C : Str) (es : Es)
  | tri (b : Ss) (C : Str) (n : Option Nat) (h : Hd)
  | brk | cnt | pass
inductive Ss where
  | nil | cons (s : S) (ss : Ss)
end

/-! ### the heart of loops -/
def forGo (bind : PV → Env → Res Env) (body : Env → Res (Fl × Env)) : List PV → Env → Res (Fl × Env)
  | [], env => .ok (.nx, env)
  | x :: xs, env => (bind x env).bind fun e1 => (body e1).bind fun r => match r.1 with
    | .nx => forGo bind body xs r.2
    | .ct => forGo bind body xs r.2
    | .bk => .ok (.nx, r.2)
    | .rt v => .ok (.rt v, r.2)
def whN (test : Env → Res (Bool × Env)) (body : Env → Res (Fl × Env)) : Nat → Env → Option (Res (Fl × Env))
  | 0, _ => none
  | n + 1, env => match test env with
    | .ok (false, e1) => some (.ok (.nx, e1))
    | .ok (true, e1) => match body e1 with
      | .ok (.nx, e2) => whN test body n e2
      | .ok (.ct, e2) => whN test body n e2
      | .ok (.bk, e2) => some (.ok (.nx, e2))
      | .ok (.rt v, e2) => some (.ok (.rt v, e2))
      | .exc C fs e => some (.exc C fs e)
      | .stuck => some .stuck
    | .exc C fs e => some (.exc C fs e)
    | .stuck => some .stuck
open Classical in
noncomputable def whF (test : Env → Res (Bool × Env)) (body : Env → Res (Fl × Env)) (env : Env) : Res (Fl × Env) :=
  if h : ∃ r, ∃ n, whN test body n env = some r then h.choose else .stuck
theorem whN_mono {t b} : ∀ {n : Nat} {env : Env} {r}, whN t b n env = some r → whN t b (n + 1) env = some r
  | 0, _, _, h => by cases h
  | n + 1, env, r, h => by
    unfold whN at h ⊢
    cases ht : t env with
    | stuck => rw [ht] at h; exact h
    | exc C fs e => rw [ht] at h; exact h
    | ok q =>
      rw [ht] at h
      obtain ⟨c, e1⟩ := q
      cases c with
      | false => exact h
      | true =>
        simp only at h ⊢
        cases hb : b e1 with
        | stuck => rw [hb] at h; exact h
        | exc C fs e => rw [hb] at h; exact h
        | ok q =>
          rw [hb] at h
          obtain ⟨f, e2⟩ := q
          cases f with
          | nx => exact whN_mono (n := n) h
          | ct => exact whN_mono (n := n) h
          | bk => exact h
          | rt v => exact h
theorem whN_add {t b} {n : Nat} {env : Env} {r} (k : Nat) (h : whN t b n env = some r) : whN t b (n + k) env = some r := by
  induction k with
  | zero => exact h
  | succ k ih => exact whN_mono ih
theorem whN_inj {t b} {n m : Nat} {env : Env} {r q} (h : whN t b n env = some r) (h' : whN t b m env = some q) : r = q := by
  have a := whN_add m h
  have c := whN_add n h'
  rw [Nat.add_comm] at c
  rw [a] at c
  exact Option.some.inj c
theorem whF_of {t b} {n : Nat} {env : Env} {r} (h : whN t b n env = some r) : whF t b env = r := by
  unfold whF
  have e : ∃ r, ∃ n, whN t b n env = some r := ⟨r, n, h⟩
  rw [dif_pos e]
  obtain ⟨m, hm⟩ := e.choose_spec
  exact whN_inj hm h
theorem whF_not {t b} {env : Env} (h : ∀ n, whN t b n env = none) : whF t b env = .stuck := by
  unfold whF
  rw [dif_neg]
  rintro ⟨r, n, e⟩
  rw [h n] at e
  cases e
/-- one turn -/
theorem whF_eq (t b) (env : Env) : whF t b env = (t env).bind fun r => match r.1 with
    | false => .ok (.nx, r.2)
    | true => (b r.2).bind fun q => match q.1 with
      | .nx => whF t b q.2
      | .ct => whF t b q.2
      | .bk => .ok (.nx, q.2)
      | .rt v => .ok (.rt v, q.2) := by
  cases ht : t env with
  | stuck => exact whF_of (n := 1) (by simp [whN, ht, Res.bind])
  | exc C fs e => exact whF_of (n := 1) (by simp [whN, ht, Res.bind])
  | ok r =>
    obtain ⟨c, e1⟩ := r
    cases c with
    | false => exact whF_of (n := 1) (by simp [whN, ht, Res.bind])
    | true =>
      simp only [Res.bind]
      cases hb : b e1 with
      | stuck => exact whF_of (n := 1) (by simp [whN, ht, hb])
      | exc C fs e => exact whF_of (n := 1) (by simp [whN, ht, hb])
      | ok q =>
        obtain ⟨f, e2⟩ := q
        have key : ∀ (hf : f = .nx ∨ f = .ct), whF t b env = whF t b e2 := fun hf => by
          by_cases h : ∃ r, ∃ n, whN t b n e2 = some r
          · obtain ⟨r, n, h⟩ := h
            rw [whF_of h]
            refine whF_of (n := n + 1) ?_
            rcases hf with rfl | rfl <;> simp [whN, ht, hb, h]
          · have h1 : ∀ n, whN t b n e2 = none := fun n => by
              cases e : whN t b n e2 with
              | none => rfl
              | some r => exact absurd ⟨r, n, e⟩ h
            rw [whF_not h1]
            refine whF_not fun n => ?_
            cases n with
            | zero => rfl
            | succ n => rcases hf with rfl | rfl <;> simp [whN, ht, hb, h1 n]
        cases f with
        | nx => exact key (.inl rfl)
        | ct => exact key (.inr rfl)
        | bk => exact whF_of (n := 1) (by simp [whN, ht, hb])
        | rt v => exact whF_of (n := 1) (by simp [whN, ht, hb])

/-- a comprehension's turns -/
def lcGo (own : List Nat) (bind : PV → Env → Res Env) (test : Env → Res (Bool × Env)) (elt : Env → Res (PV × Env)) (wipe : Env → Env) : List PV → List PV → Env → Res (List PV × Env)
  | [], acc, env => .ok (acc, env)
  | x :: xs, acc, env => (bind x env).bind fun e1 => (test e1).bind fun b => match b.1 with
    | true => (elt b.2).bind fun r => lcGo own bind test elt wipe xs (acc ++ [r.1]) (wipe r.2)
    | false => lcGo own bind test elt wipe xs acc (wipe b.2)
/-- .. of two clauses -/
def lc2Go (own : List Nat) (bind : PV → Env → Res Env) (test : Env → Res (Bool × Env)) (inner : Env → List PV → Res (List PV × Env)) (wipe : Env → Env) : List PV → List PV → Env → Res (List PV × Env)
  | [], acc, env => .ok (acc, env)
  | x :: xs, acc, env => (bind x env).bind fun e1 => (test e1).bind fun b => match b.1 with
    | true => (inner b.2 acc).bind fun r => lc2Go own bind test inner wipe xs r.1 (wipe r.2)
    | false => lc2Go own bind test inner wipe xs acc (wipe b.2)
/-- .. whose items are owned -/
def lnGo (own : List Nat) (bind : PV → Env → Res Env) (test : Env → Res (Bool × Env)) (elt : Env → Res (Cell × Env)) (wipe : Env → Env) : List PV → List Cell → Env → Res (List Cell × Env)
  | [], acc, env => .ok (acc, env)
  | x :: xs, acc, env => (bind x env).bind fun e1 => (test e1).bind fun b => match b.1 with
    | true => (elt b.2).bind fun r => lnGo own bind test elt wipe xs (acc ++ [r.1]) (wipe r.2)
    | false => lnGo own bind test elt wipe xs acc (wipe b.2)
/-- .. of a dict: an entry is a key and a value -/
def dcGo (own : List Nat) (bind : PV → Env → Res Env) (test : Env → Res (Bool × Env)) (elt : Env → Res ((List L2.Key × PV) × Env)) (wipe : Env → Env) : List PV → List (List L2.Key × PV) → Env → Res (List (List L2.Key × PV) × Env)
  | [], acc, env => .ok (acc, env)
  | x :: xs, acc, env => (bind x env).bind fun e1 => (test e1).bind fun b => match b.1 with
    | true => (elt b.2).bind fun r => dcGo own bind test elt wipe xs (dPut acc r.1.1 r.1.2) (wipe r.2)
    | false => dcGo own bind test elt wipe xs acc (wipe b.2)
/-- .. of two clauses -/
def dc2Go (own : List Nat) (bind : PV → Env → Res Env) (test : Env → Res (Bool × Env)) (inner : Env → List (List L2.Key × PV) → Res (List (List L2.Key × PV) × Env)) (wipe : Env → Env) : List PV → List (List L2.Key × PV) → Env → Res (List (List L2.Key × PV) × Env)
  | [], acc, env => .ok (acc, env)
  | x :: xs, acc, env => (bind x env).bind fun e1 => (test e1).bind fun b => match b.1 with
    | true => (inner b.2 acc).bind fun r => dc2Go own bind test inner wipe xs r.1 (wipe r.2)
    | false => dc2Go own bind test inner wipe xs acc (wipe b.2)
def wipeE (env : Env) : List Nat → Env
  | [] => env
  | i :: r => (wipeE env r).set i none
/-- the slots are free or bear plain values -/
def plainAt (env : Env) (own : List Nat) : Bool := own.all fun i => match get env i with
  | none => true
  | some (.fz _) => true
  | _ => false
def restore (old env : Env) : List Nat → Env
  | [] => env
  | i :: r => (restore old env r).set i (get old i)

/-- nothing is raised within -/
def Res.noexc {α : Type} : Res α → Res α
  | .exc _ _ _ => .stuck
  | r => r
def optR {α : Type} : Option α → Res α
  | some a => .ok a
  | none => .stuck
def mkV : VR → RV
  | .sc p => .val p
  | .tup ps => .val (.tup ps)
  | .lst ps => .new (.lst ps)
  | .srt ps => .new (.lst ps)
def zipP : List PV → List PV → List PV
  | x :: xs, y :: ys => .tup [x, y] :: zipP xs ys
  | _, _ => []
def enumP : Nat → List PV → List PV
  | _, [] => []
  | k, x :: xs => .tup [.int k, x] :: enumP (k + 1) xs
def rangeP (lo : Int) : Nat → List PV
  | 0 => []
  | n + 1 => .int lo :: rangeP (lo + 1) n
def rangeC (lo c : Int) : Nat → List PV
  | 0 => []
  | n + 1 => .int lo :: rangeC (lo + c) c n
def bnd (i : Int) : Prop := -(2 ^ 62) ≤ i ∧ i < 2 ^ 62
instance (i : Int) : Decidable (bnd i) := inferInstanceAs (Decidable (_ ∧ _))

/-- what is called: a def, a method of a class -/
inductive Key where
  | fn (f : Str) | mt (C m : Str)
/-- what the program's own things mean -/
structure Sem where
  fn : Key → List Arg → FRes
  con : Str → Option PV
  sub : Str → Str → Option Bool
  cls : Str → Bool
  has : Str → Str → Bool

/-- looked at alone: what a built-in gives of its arguments -/
def bltH (f : Str) (ps : List PV) : Option VR :=
  if f = ("len" : Str) then (match ps with | [p] => (lenP p).map fun n => .sc (.int n) | _ => none)
  else if f = ("abs" : Str) then (match ps with | [.int i] => some (.sc (.int (if i < 0 then -i else i))) | _ => none)
  else if f = ("min" : Str) then (match ps with
    | [.int i, .int j] => some (.sc (.int (if j < i then j else i)))
    | [.lst xs] => match asInts xs with
      | some (n :: ns) => some (.sc (.int (ns.foldl min n)))
      | _ => none
    | [.tup xs] => match asInts xs with
      | some (n :: ns) => some (.sc (.int (ns.foldl min n)))
      | _ => none
    | _ => none)
  else if f = ("max" : Str) then (match ps with
    | [.int i, .int j] => some (.sc (.int (if j > i then j else i)))
    | [.lst xs] => match asInts xs with
      | some (n :: ns) => some (.sc (.int (ns.foldl max n)))
      | _ => none
    | [.tup xs] => match asInts xs with
      | some (n :: ns) => some (.sc (.int (ns.foldl max n)))
      | _ => none
    | _ => none)
  else if f = ("sum" : Str) then (match ps with | [.lst xs] => (asInts xs).map fun ns => .sc (.int ns.sum) | [.tup xs] => (asInts xs).map fun ns => .sc (.int ns.sum) | _ => none)
  else if f = ("all" : Str) then (match ps with | [.lst xs] => (asBls xs).map fun ns => .sc (.bl (ns.all id)) | _ => none)
  else if f = ("any" : Str) then (match ps with | [.lst xs] => (asBls xs).map fun ns => .sc (.bl (ns.any id)) | _ => none)
  else if f = ("int" : Str) then (match ps with | [.int i] => some (.sc (.int i)) | [.bl b] => some (.sc (.int (if b = true then 1 else 0))) | _ => none)
  else if f = ("isinstance" : Str) then (match ps with | [p, .ty T] => (isiP p T).map fun b => .sc (.bl b) | _ => none)
  else none
/-- .. whose parts stay -/
def bltK (f : Str) (ps : List PV) : Option VR :=
  if f = ("tuple" : Str) then (match ps with
    | [.lst xs] => some (.tup xs)
    | [.tup xs] => some (.sc (.tup xs))
    | _ => none)
  else if f = ("list" : Str) then (match ps with
    | [.lst xs] => some (.lst xs)
    | [.tup xs] => some (.lst xs)
    | [.scr xs] => some (.lst (xs.map .int))
    | _ => none)
  else if f = ("sorted" : Str) then (match ps with
    | [.lst xs] => if srtOk xs = true then some (.lst (isortP xs)) else none
    | [.tup xs] => if srtOk xs = true then some (.lst (isortP xs)) else none
    | [.dct b kvs] => if srtOk (kvs.map fun kv => ofK b kv.1) = true then some (.srt (isortP (kvs.map fun kv => ofK b kv.1))) else none
    | _ => none)
  else none
def isK (f : Str) : Bool := f == ("tuple" : Str) || f == ("list" : Str) || f == ("sorted" : Str)
/-- the numbers that are met, ascending -/
def insU (x : Int) : List Int → List Int
  | [] => [x]
  | y :: r => if x < y then x :: y :: r else if x = y then y :: r else y :: insU x r
def sortU (ns : List Int) : List Int := ns.foldr insU []
/-- sorted(set(xs)), len(set(xs)) -/
def ssetI (f : Str) (ns : List Int) : Option VR := if ns.length ≤ 4000 then (if f = ("sorted" : Str) then some (.lst ((sortU ns).map .int)) else if f = ("len" : Str) then some (.sc (.int (sortU ns).length)) else none) else none
def ssetV (f : Str) (p : PV) : Option VR := match p with
  | .lst xs => (asInts xs).bind (ssetI f)
  | .tup xs => (asInts xs).bind (ssetI f)
  | _ => none
def rdsB (g : Env → RV → Option PV) (env : Env) : List RV → Option (List PV)
  | [] => some []
  | r :: rs => match g env r, rdsB g env rs with
    | some p, some ps => some (p :: ps)
    | _, _ => none
def unbs : List RV → Env → Env
  | [], env => env
  | r :: rs, env => unb r (unbs rs env)

/-! parts -/
def idxC (c : Cell) (y : PV) : Option (PV ⊕ Nat) := match c with
  | .fz p => (ixP p y).map .inl
  | .lst xs => (ixP (.lst xs) y).map .inl
  | .dct b kvs => (ixP (.dct b kvs) y).map .inl
  | .ls cs => match y with
    | .int i => match ixN cs.length i with
      | some n => match cs[n]? with
        | some (.fz p) => some (.inl p)
        | some _ => some (.inr n)
        | none => none
      | none => none
    | _ => none
  | .obj _ _ => none
def ixV (r : RV) (y : PV) (env : Env) : Res (RV × Env) := match vwC env r with
  | none => .stuck
  | some c => match idxC c y with
    | none => .stuck
    | some (.inl v) => .ok (.val v, unb r env)
    | some (.inr n) => match r with
      | .loc j => .ok (.brw j [.ix n] c, env.set j none)
      | .brw j p c0 => .ok (.brw j (p ++ [.ix n]) c0, env)
      | _ => .stuck
def attC (cls : Str → Bool) (c : Cell) (f : Str) : Option (Option PV) := match c with
  | .fz (.obj C fs) => if cls C = true then (fs.lookup f).map some else none
  | .obj C fs => if cls C = true then (match fs.lookup f with
    | some (.fz p) => some (some p)
    | some _ => some none
    | none => none) else none
  | _ => none
def attV (cls : Str → Bool) (r : RV) (f : Str) (env : Env) : Res (RV × Env) := match vwC env r with
  | none => .stuck
  | some c => match attC cls c f with
    | none => .stuck
    | some (some v) => .ok (.val v, unb r env)
    | some none => match r with
      | .loc j => .ok (.brw j [.at f] c, env.set j none)
      | .brw j p c0 => .ok (.brw j (p ++ [.at f]) c0, env)
      | _ => .stuck
/-- a part is written -/
def wrt (r : RV) (d : Cell) (env : Env) : Res Env := match r with
  | .loc j => .ok (env.set j (some d))
  | .brw j p c => .ok (env.set j (some (setC c p d)))
  | _ => .stuck
def putC (c : Cell) (y p : PV) : Option Cell := match c with
  | .lst xs => match y with
    | .int i => (ixN xs.length i).map fun n => .lst (xs.set n p)
    | _ => none
  | .ls cs => match y with
    | .int i => (ixN cs.length i).map fun n => .ls (cs.set n (.fz p))
    | _ => none
  | .dct b kvs => (keyP b y).bind fun k => if kvs.length < sizeLine then some (.dct b (dPut kvs k p)) else none
  | _ => none
def putF (f : Str) (c : Cell) : List (Str × Cell) → List (Str × Cell)
  | [] => [(f, c)]
  | (g, d) :: r => if f == g then (f, c) :: r else (g, d) :: putF f c r

section
variable (F : Sem)
/-- a call's end: the result, what the lent slot holds -/
def endCall (i : Option Nat) (env : Env) : FRes → Res (RV × Env)
  | .ok r out => match i, out with
    | some j, some c => .ok (r, env.set j (some c))
    | none, none => .ok (r, env)
    | _, _ => .stuck
  | .exc C fs => match i with
    | some j => .exc C fs (env.set j none)
    | none => .exc C fs env
  | .stuck => .stuck
def lend (env : Env) (i : Nat) : Res Cell := match get env i with
  | some (.fz _) => .stuck
  | some c => .ok c
  | none => .stuck
def vals (ps : List PV) : List Arg := ps.map .val

/-- the three views of an expression: a value, a test, what is walked (and what is borrowed meanwhile) -/
structure Vw where
  e : Env → Res (RV × Env)
  t : Env → Res (Bool × Env)
  i : Env → Res ((List PV × RV) × Env)
/-- a value's truth -/
def truV (e : Env → Res (RV × Env)) (env : Env) : Res (Bool × Env) := (e env).bind fun r => (optR (rdH r.2 r.1)).bind fun p => (optR (truP p)).bind fun b => .ok (b, unb r.1 r.2)
/-- a value's items, taken -/
def tkI (r : RV × Env) : Res ((List PV × RV) × Env) := (optR (take r.1 r.2)).bind fun r => (optR (itemsP r.1)).bind fun xs => .ok ((xs, .val .non), r.2)
/-- a value's items -/
def itI (r : RV × Env) : Res ((List PV × RV) × Env) := match r.1 with
  | .loc j => match get r.2 j with
    | some c => if flat c = true then (optR (itemsP c.pv)).bind fun xs => .ok ((xs, .brw j [] c), r.2.set j none) else tkI r
    | none => .stuck
  | .brw j p c => match getC c p with
    | some d => if flat d = true then (optR (itemsP d.pv)).bind fun xs => .ok ((xs, .brw j p c), r.2) else tkI r
    | none => .stuck
  | _ => tkI r
def itsV (e : Env → Res (RV × Env)) (env : Env) : Res ((List PV × RV) × Env) := (e env).bind itI
def vw (e : Env → Res (RV × Env)) : Vw := ⟨e, truV e, itsV e⟩
def kindC : Cell → Str
  | .lst _ => "list"
  | .ls _ => "list"
  | .dct _ _ => "dict"
  | .fz (.lst _) => "list"
  | .fz (.tup _) => "tuple"
  | .fz (.dct _ _) => "dict"
  | _ => ""
/-- the first place of an item -/
def fndP (xs : List PV) (p : PV) (k : Nat) : Option Nat := match xs with
  | [] => none
  | x :: r => if eqP x p = true then some k else fndP r p (k + 1)
/-- a method of a list: what it gives, the list behind it -/
def mthL (m : Str) (xs : List PV) (ps : List PV) : Option (PV × List PV) :=
      if m = ("append" : Str) then (match ps with
        | [p] => if xs.length < sizeLine then some (.non, xs ++ [p]) else none
        | _ => none)
      else if m = ("pop" : Str) then (match ps with
        | [] => (xs[xs.length - 1]?).map fun y => (y, xs.dropLast)
        | [.int i] => if -(2 ^ 63) ≤ i ∧ i < 2 ^ 63 then (match seqIndex? i xs.length with
          | some k => (xs[k]?).map fun y => (y, xs.eraseIdx k)
          | none => none) else none
        | _ => none)
      else if m = ("remove" : Str) then (match ps with
        | [p] => if shp p = true ∧ shp (.lst xs) = true then (fndP xs p 0).map fun k => (.non, xs.eraseIdx k) else none
        | _ => none)
      else if m = ("extend" : Str) then (match ps with
        | [.lst ys] => if xs.length + ys.length ≤ sizeLine then some (.non, xs ++ ys) else none
        | _ => none)
      else none
/-- a method that changes nothing -/
def mthR (m : Str) (p : PV) (ps : List PV) : Option PV :=
      if m = ("index" : Str) then (match p, ps with
        | .lst xs, [q] => if shp q = true ∧ shp (.lst xs) = true then (fndP xs q 0).map fun k => .int k else none
        | .tup xs, [q] => if shp q = true ∧ shp (.tup xs) = true then (fndP xs q 0).map fun k => .int k else none
        | _, _ => none)
      else if m = ("get" : Str) then (match p, ps with
        | .dct b kvs, [q] => (keyP b q).map fun k => (dGet kvs k).getD .non
        | _, _ => none)
      else none
def mthC (m : Str) (c : Cell) (ps : List PV) : Option (PV × Option Cell) := match mthR m c.pv ps with
  | some v => if flat c = true then some (v, none) else none
  | none => match c with
    | .lst xs => (mthL m xs ps).map fun z => (z.1, some (.lst z.2))
    | .ls cs => if m = ("append" : Str) then (match ps with
      | [p] => if cs.length < sizeLine then some (.non, some (.ls (cs ++ [.fz p]))) else none
      | _ => none) else none
    | _ => none
/-- .. behind its arguments -/
def mthV (m : Str) (ts : Env → Res (List PV × Env)) (r : RV × Env) : Res (RV × Env) := match vwC r.2 r.1 with
  | some c0 => (ts r.2).bind fun q => match vwC q.2 r.1 with
    | some c => if kindC c = kindC c0 then (match mthC m c q.1 with
      | some (v, none) => .ok (.val v, unb r.1 q.2)
      | some (v, some d) => (wrt r.1 d q.2).bind fun e1 => .ok (.val v, e1)
      | none => .stuck) else .stuck
    | none => .stuck
  | none => .stuck
/-- a part of a slice -/
def parV (e : Env → Res (RV × Env)) (env : Env) : Res (Option Int × Env) := (e env).bind fun r => match r.1 with
  | .val (.int i) => .ok (some i, r.2)
  | _ => .stuck
def isNop : E → Bool
  | .con .non => true
  | _ => false
def parO (n : Bool) (e : Env → Res (RV × Env)) : Env → Res (Option Int × Env) := match n with
  | true => fun env => .ok (none, env)
  | false => parV e
def rngV (h : Env → Res (List RV × Env)) (env : Env) : Res ((List PV × RV) × Env) := (h env).bind fun r => match r.1 with
  | [.val (.int j)] => if bnd j ∧ j.toNat ≤ sizeLine then .ok ((rangeP 0 j.toNat, .val .non), r.2) else .stuck
  | [.val (.int i), .val (.int j)] => if bnd i ∧ bnd j ∧ (j - i).toNat ≤ sizeLine then .ok ((rangeP i (j - i).toNat, .val .non), r.2) else .stuck
  | [.val (.int i), .val (.int j), .val (.int c)] => if bnd i ∧ bnd j ∧ c = -1 ∧ (i - j).toNat ≤ sizeLine then .ok ((rangeC i c (i - j).toNat, .val .non), r.2) else .stuck
  | _ => .stuck
def zipV (h : Env → Res (List PV × Env)) (env : Env) : Res ((List PV × RV) × Env) := (h env).bind fun r => match r.1 with
  | [.lst xs, .lst ys] => .ok ((zipP xs ys, .val .non), r.2)
  | [.tup xs, .tup ys] => .ok ((zipP xs ys, .val .non), r.2)
  | _ => .stuck
def enuV (h : Env → Res (List PV × Env)) (env : Env) : Res ((List PV × RV) × Env) := (h env).bind fun r => match r.1 with
  | [.lst xs] => .ok ((enumP 0 xs, .val .non), r.2)
  | _ => .stuck
/-- owned or taken -/
def ownR (r : RV) (env : Env) : Option (Cell × Env) := match r with
  | .new c => some (c, env)
  | r => (take r env).map fun z => (.fz z.1, z.2)
/-- the least by a key, the first one -/
def minkGo (bind : PV → Env → Res Env) (key : Env → Res (RV × Env)) (wipe : Env → Env) : List PV → Option (PV × Int) → Env → Res (Option (PV × Int) × Env)
  | [], b, env => .ok (b, env)
  | x :: xs, b, env => (bind x env).bind fun e1 => (key e1).bind fun r => match r.1 with
    | .val (.int k) => minkGo bind key wipe xs (match b with
      | none => some (x, k)
      | some (y, l) => if k < l then some (x, k) else some (y, l)) (wipe r.2)
    | _ => .stuck
mutual
def ev : E → Vw
  | .bad => vw fun _ => .stuck
  | .var i => vw fun env => match get env i with
    | some (.fz p) => .ok (.val p, env)
    | some _ => .ok (.loc i, env)
    | none => .stuck
  | .con p => vw fun env => .ok (.val p, env)
  | .gco x => vw fun env => match F.con x with
    | some p => .ok (.val p, env)
    | none => .stuck
  | .bop o a b => vw fun env => ((ev a).e env).bind fun r => ((ev b).e r.2).bind fun q =>
    (optR (rd q.2 r.1)).bind fun x => (optR (rd q.2 q.1)).bind fun y => (optR (bopV o x y)).bind fun v => .ok (mkV v, unb r.1 (unb q.1 q.2))
  | .neg a => vw fun env => ((ev a).e env).bind fun r => match r.1 with
    | .val (.int i) => .ok (.val (.int (-i)), r.2)
    | _ => .stuck
  | .not a => ⟨fun env => ((ev a).e env).bind fun r => match r.1 with
    | .val (.bl b) => .ok (.val (.bl (!b)), r.2)
    | _ => .stuck, fun env => ((ev a).t env).bind fun r => .ok (!r.1, r.2), fun _ => .stuck⟩
  | .and a b => ⟨fun env => ((ev a).e env).bind fun r => match r.1 with
    | .val (.bl true) => (ev b).e r.2
    | .val (.bl false) => .ok (.val (.bl false), r.2)
    | _ => .stuck, fun env => ((ev a).t env).bind fun r => match r.1 with
    | true => (ev b).t r.2
    | false => .ok (false, r.2), fun _ => .stuck⟩
  | .or a b => ⟨fun env => ((ev a).e env).bind fun r => match r.1 with
    | .val (.bl true) => .ok (.val (.bl true), r.2)
    | .val (.bl false) => (ev b).e r.2
    | _ => .stuck, fun env => ((ev a).t env).bind fun r => match r.1 with
    | true => .ok (true, r.2)
    | false => (ev b).t r.2, fun _ => .stuck⟩
  | .cmp o a b => vw fun env => ((ev a).e env).bind fun r => ((ev b).e r.2).bind fun q =>
    (optR (rdH q.2 r.1)).bind fun x => (optR (rdH q.2 q.1)).bind fun y => (optR (copV o x y)).bind fun v => .ok (.val (.bl v), unb r.1 (unb q.1 q.2))
  | .chn o o' a b c => vw fun env => ((ev a).e env).bind fun r => ((ev b).e r.2).bind fun q =>
    (optR (rdH q.2 r.1)).bind fun x => (optR (rdH q.2 q.1)).bind fun y => (optR (copV o x y)).bind fun v => match v with
    | false => .ok (.val (.bl false), unb r.1 (unb q.1 q.2))
    | true => ((ev c).e q.2).bind fun w => (optR (rdH w.2 q.1)).bind fun y => (optR (rdH w.2 w.1)).bind fun z =>
      (optR (copV o' y z)).bind fun v => .ok (.val (.bl v), unb r.1 (unb q.1 (unb w.1 w.2)))
  | .chn3 o o' o'' a b c d => vw fun env => ((ev a).e env).bind fun r => ((ev b).e r.2).bind fun q =>
    (optR (rdH q.2 r.1)).bind fun x => (optR (rdH q.2 q.1)).bind fun y => (optR (copV o x y)).bind fun v => match v with
    | false => .ok (.val (.bl false), unb r.1 (unb q.1 q.2))
    | true => ((ev c).e q.2).bind fun w => (optR (rdH w.2 q.1)).bind fun y => (optR (rdH w.2 w.1)).bind fun z =>
      (optR (copV o' y z)).bind fun v => match v with
      | false => .ok (.val (.bl false), unb r.1 (unb q.1 (unb w.1 w.2)))
      | true => ((ev d).e w.2).bind fun u => (optR (rdH u.2 w.1)).bind fun y => (optR (rdH u.2 u.1)).bind fun z =>
        (optR (copV o'' y z)).bind fun v => .ok (.val (.bl v), unb r.1 (unb q.1 (unb w.1 (unb u.1 u.2))))
  | .ite t a b => ⟨fun env => ((ev t).t env).bind fun r => match r.1 with
    | true => (ev a).e r.2
    | false => (ev b).e r.2, fun env => ((ev t).t env).bind fun r => match r.1 with
    | true => (ev a).t r.2
    | false => (ev b).t r.2, itsV fun env => ((ev t).t env).bind fun r => match r.1 with
    | true => (ev a).e r.2
    | false => (ev b).e r.2⟩
  | .tup es => vw fun env => (evTs es env).bind fun r => .ok (.val (.tup r.1), r.2)
  | .lst es => vw fun env => (evTs es env).bind fun r => .ok (.new (.lst r.1), r.2)
  | .call f es => vw fun env => (evTs es env).bind fun r => endCall none r.2 (F.fn (.fn f) (vals r.1))
  | .calm f i es => vw fun env => match get env i with
    | none => .stuck
    | some (.fz _) => .stuck
    | some _ => (evTs es env).bind fun r => (lend r.2 i).bind fun c => endCall (some i) r.2 (F.fn (.fn f) (.own c :: vals r.1))
  | .blt f es => ⟨fun env => (evHs es env).bind fun r => (optR (rdsB (if isK f = true then rd else rdH) r.2 r.1)).bind fun ps => (optR (if isK f = true then bltK f ps else bltH f ps)).bind fun v => .ok (mkV v, unbs r.1 r.2),
    truV fun env => (evHs es env).bind fun r => (optR (rdsB (if isK f = true then rd else rdH) r.2 r.1)).bind fun ps => (optR (if isK f = true then bltK f ps else bltH f ps)).bind fun v => .ok (mkV v, unbs r.1 r.2),
    fun env => if f = ("range" : Str) then rngV (evHs es) env
      else if f = ("zip" : Str) then zipV (evTs es) env
      else if f = ("enumerate" : Str) then enuV (evTs es) env
      else itsV (fun env => (evHs es env).bind fun r => (optR (rdsB (if isK f = true then rd else rdH) r.2 r.1)).bind fun ps => (optR (if isK f = true then bltK f ps else bltH f ps)).bind fun v => .ok (mkV v, unbs r.1 r.2)) env⟩
  | .mk C es => vw fun env => (evTs es env).bind fun r => match F.fn (.mt C "__init__") (.own (.obj C []) :: vals r.1) with
    | .ok (.val .non) (some c) => .ok (.new c, r.2)
    | .exc C' fs => .exc C' fs r.2
    | _ => .stuck
  | .mth m o es => vw fun env => ((ev o).e env).bind fun r => if (match vwC r.2 r.1 with | some c => kindC c == ("list" : Str) | none => false) = true then mthV m (evTs es) r else .stuck
  | .omt m o es => vw fun env => ((ev o).e env).bind fun r => (optR (take r.1 r.2)).bind fun r => match r.1 with
    | .obj C fs => if (fs.lookup m).isNone = true ∧ F.has C m = true then (evTs es r.2).bind fun q => endCall none q.2 (F.fn (.mt C m) (.val (.obj C fs) :: vals q.1)) else .stuck
    | _ => .stuck
  | .mthm m i es => vw fun env => match get env i with
    | some (.obj C _) => (evTs es env).bind fun r => (lend r.2 i).bind fun c => match c with
      | .obj C' fs => if C' = C ∧ (fs.lookup m).isNone = true ∧ F.has C m = true then endCall (some i) r.2 (F.fn (.mt C m) (.own (.obj C fs) :: vals r.1)) else .stuck
      | _ => .stuck
    | _ => .stuck
  | .att o f => vw fun env => ((ev o).e env).bind fun r => attV F.cls r.1 f r.2
  | .ix o i => vw fun env => ((ev o).e env).bind fun r => ((ev i).e r.2).bind fun q => (optR (rdH q.2 q.1)).bind fun y => ixV r.1 y (unb q.1 q.2)
  | .sl o lo hi => vw fun env => ((ev o).e env).bind fun r => (parO (isNop lo) (ev lo).e r.2).bind fun l => (parO (isNop hi) (ev hi).e l.2).bind fun h =>
    (optR (rd h.2 r.1)).bind fun x => (optR (slP x l.1 h.1)).bind fun v => .ok (mkV v, unb r.1 h.2)
  | .rev o => vw fun env => ((ev o).e env).bind fun r => (optR (rd r.2 r.1)).bind fun x => match x with
    | .lst xs => .ok (.new (.lst xs.reverse), unb r.1 r.2)
    | _ => .stuck
  | .lc own t it c e => vw fun env => ((ev it).i env).bind fun r => match plainAt r.2 own with
    | false => .stuck
    | true => (lcGo own (evTg t) (ev c).t (fun e1 => ((ev e).e e1).bind fun q => optR (take q.1 q.2)) (fun e1 => wipeE e1 own) r.1.1 [] (wipeE r.2 own)).noexc.bind fun q =>
      .ok (.new (.lst q.1), unb r.1.2 (restore r.2 q.2 own))
  | .ln own t it c e => vw fun env => ((ev it).i env).bind fun r => match plainAt r.2 own with
    | false => .stuck
    | true => (lnGo own (evTg t) (ev c).t (fun e1 => ((ev e).e e1).bind fun q => optR (ownR q.1 q.2)) (fun e1 => wipeE e1 own) r.1.1 [] (wipeE r.2 own)).noexc.bind fun q =>
      .ok (.new (.ls q.1), unb r.1.2 (restore r.2 q.2 own))
  | .dc b own t it c k v => vw fun env => ((ev it).i env).bind fun r => match plainAt r.2 own with
    | false => .stuck
    | true => (dcGo own (evTg t) (ev c).t (fun e1 => ((ev k).e e1).bind fun q => (optR (take q.1 q.2)).bind fun q => (optR (keyP b q.1)).bind fun y => ((ev v).e q.2).bind fun w => (optR (take w.1 w.2)).bind fun w => .ok ((y, w.1), w.2)) (fun e1 => wipeE e1 own) r.1.1 [] (wipeE r.2 own)).noexc.bind fun q =>
      .ok (.new (.dct b q.1), unb r.1.2 (restore r.2 q.2 own))
  | .lc2 own own2 t it c t2 it2 c2 e => vw fun env => ((ev it).i env).bind fun r => match plainAt r.2 own with
    | false => .stuck
    | true => (lc2Go own (evTg t) (ev c).t (fun e1 acc => ((ev it2).i e1).bind fun s => match s.1.2 with
        | .val _ => lcGo own2 (evTg t2) (ev c2).t (fun e2 => ((ev e).e e2).bind fun q => optR (take q.1 q.2)) (fun e2 => wipeE e2 own2) s.1.1 acc (wipeE s.2 own2)
        | _ => .stuck)
        (fun e1 => wipeE e1 own) r.1.1 [] (wipeE r.2 own)).noexc.bind fun q =>
      if q.1.length ≤ sizeLine then .ok (.new (.lst q.1), unb r.1.2 (restore r.2 q.2 own)) else .stuck
  | .dc2 b own own2 t it c t2 it2 c2 k v => vw fun env => ((ev it).i env).bind fun r => match plainAt r.2 own with
    | false => .stuck
    | true => (dc2Go own (evTg t) (ev c).t (fun e1 acc => ((ev it2).i e1).bind fun s => match s.1.2 with
        | .val _ => dcGo own2 (evTg t2) (ev c2).t (fun e1 => ((ev k).e e1).bind fun q => (optR (take q.1 q.2)).bind fun q => (optR (keyP b q.1)).bind fun y => ((ev v).e q.2).bind fun w => (optR (take w.1 w.2)).bind fun w => .ok ((y, w.1), w.2)) (fun e2 => wipeE e2 own2) s.1.1 acc (wipeE s.2 own2)
        | _ => .stuck)
        (fun e1 => wipeE e1 own) r.1.1 [] (wipeE r.2 own)).noexc.bind fun q =>
      if q.1.length < sizeLine then .ok (.new (.dct b q.1), unb r.1.2 (restore r.2 q.2 own)) else .stuck
  | .dnew b => vw fun env => .ok (.new (.dct b []), env)
  | .dsp b k v => vw fun env => ((ev k).e env).bind fun q => (optR (take q.1 q.2)).bind fun q => (optR (keyP b q.1)).bind fun y => ((ev v).e q.2).bind fun w => (optR (take w.1 w.2)).bind fun w => match b with
    | false => .ok (.new (.dct false (dPut [] y w.1)), w.2)
    | true => .stuck
  | .frz e => ⟨fun env => ((ev e).e env).bind fun r => (optR (take r.1 r.2)).bind fun r => .ok (.val r.1, r.2), (ev e).t, itsV fun env => ((ev e).e env).bind fun r => (optR (take r.1 r.2)).bind fun r => .ok (.val r.1, r.2)⟩
  | .lck e => ⟨fun env => ((ev e).e env).bind fun r => match r.1 with
    | .new (.dct false kvs) => .ok (.val (.dcl kvs), r.2)
    | _ => .stuck, fun _ => .stuck, itsV fun env => ((ev e).e env).bind fun r => match r.1 with
    | .new (.dct false kvs) => .ok (.val (.dcl kvs), r.2)
    | _ => .stuck⟩
  | .seq f it => vw fun env => ((ev it).i env).bind fun r => if f = ("tuple" : Str) then .ok (.val (.tup r.1.1), unb r.1.2 r.2) else if f = ("list" : Str) then .ok (.new (.lst r.1.1), unb r.1.2 r.2) else .stuck
  | .sset f e => vw fun env => ((ev e).e env).bind fun r => (optR (rd r.2 r.1)).bind fun x => (optR (ssetV f x)).bind fun v => .ok (mkV v, unb r.1 r.2)
  | .mink t xs e => vw fun env => ((ev xs).e env).bind fun r => (optR (rd r.2 r.1)).bind fun x => match x with
    | .lst ys => match plainAt r.2 [t] with
      | false => .stuck
      | true => (minkGo (fun p env => if t < env.length then .ok (env.set t (some (.fz p))) else .stuck) (ev e).e (fun e1 => e1.set t none) ys none (r.2.set t none)).noexc.bind fun q => match q.1 with
        | some (y, _) => .ok (.val y, unb r.1 (q.2.set t (get r.2 t)))
        | none => .stuck
    | _ => .stuck
/-- values taken for good -/
def evTs : Es → Env → Res (List PV × Env)
  | .nil => fun env => .ok ([], env)
  | .cons e es => fun env => ((ev e).e env).bind fun r => (optR (take r.1 r.2)).bind fun r => (evTs es r.2).bind fun q => .ok (r.1 :: q.1, q.2)
/-- values that are looked at -/
def evHs : Es → Env → Res (List RV × Env)
  | .nil => fun env => .ok ([], env)
  | .cons e es => fun env => ((ev e).e env).bind fun r => (evHs es r.2).bind fun q => .ok (r.1 :: q.1, q.2)
/-- a value goes to a target -/
def evTg : Tg → PV → Env → Res Env
  | .nm i => fun p env => if i < env.length then .ok (env.set i (some (.fz p))) else .stuck
  | .tup ts => fun p env => match p with
    | .tup xs => evTgs ts xs env
    | _ => .stuck
  | .ix o i => fun p env => ((ev o).e env).bind fun r => ((ev i).e r.2).bind fun q => (optR (rdH q.2 q.1)).bind fun y => match vwC (unb q.1 q.2) r.1 with
    | some c => (optR (putC c y p)).bind fun d => wrt r.1 d (unb q.1 q.2)
    | none => .stuck
  | .att o f => fun p env => ((ev o).e env).bind fun r => match vwC r.2 r.1 with
    | some (.obj C fs) => if fs.length < 1000 ∧ F.cls C = true then wrt r.1 (.obj C (putF f (.fz p) fs)) r.2 else .stuck
    | _ => .stuck
def evTgs : Tgs → List PV → Env → Res Env
  | .nil => fun xs env => match xs with
    | [] => .ok env
    | _ => .stuck
  | .cons t ts => fun xs env => match xs with
    | x :: xs => (evTg t x env).bind fun e1 => evTgs ts xs e1
    | [] => .stuck
end
/-! ### statements -/
/-- nothing lent: a loc is frozen -/
def settle : RV → Env → Option (RV × Env)
  | .val p, env => some (.val p, env)
  | .new c, env => some (.new c, env)
  | r, env => (take r env).map fun z => (.val z.1, z.2)
def put (i : Nat) (r : RV) (env : Env) : Option Env := if i < env.length then (match r with
    | .val p => some (env.set i (some (.fz p)))
    | .new c => if i = 0 then none else some (env.set i (some c))
    | _ => none) else none
/-- what a return hands over -/
def giveBack (r : RV) (env : Env) : Res (RV × Env) := match r with
  | .loc j => match get env j with
    | some (.fz p) => .ok (.val p, env)
    | some c => .ok (.new c, env.set j none)
    | none => .stuck
  | .brw j p c => (optR (take (.brw j p c) env)).bind fun z => .ok (.val z.1, z.2)
  | r => .ok (r, env)
def iopV : Bop → PV → PV → Option PV
  | .add, .int i, .int j => some (.int (i + j))
  | .sub, .int i, .int j => some (.int (i - j))
  | _, _, _ => none
def heV (C : Str) (fs : List (Str × PV)) : HE → Option PV
  | .con p => some p
  | .fld f => fs.lookup f
  | .isi D => (F.sub C D).map .bl
  | .ite D a b => match F.sub C D with
    | some true => heV C fs a
    | some false => heV C fs b
    | none => none
def handle (h : Hd) (C : Str) (fs : List (Str × PV)) (env : Env) : Res (Fl × Env) := match h with
  | .ret e => match heV F C fs e with
    | some p => .ok (.rt (.val p), env)
    | none => .stuck
  | .pass => .ok (.nx, env)
  | .cont => .ok (.ct, env)
/-- a try's end -/
def tryEnd (C : Str) (n : Option Nat) (h : Hd) (r : Res (Fl × Env)) : Res (Fl × Env) := match r with
  | .exc C' fs e1 => match F.sub C' C with
    | some true => (match n with
      | some i => if i < e1.length then handle F h C' fs (e1.set i none) else .stuck
      | none => handle F h C' fs e1)
    | some false => .exc C' fs e1
    | none => .stuck
  | r => r
mutual
noncomputable def evS : S → Env → Res (Fl × Env)
  | .bad, _ => .stuck
  | .expr e, env => ((ev F e).e env).bind fun r => .ok (.nx, unb r.1 r.2)
  | .asg (.nm i) e, env => ((ev F e).e env).bind fun r => (optR (settle r.1 r.2)).bind fun r => (optR (put i r.1 r.2)).bind fun e1 => .ok (.nx, e1)
  | .asg t e, env => ((ev F e).e env).bind fun r => (optR (take r.1 r.2)).bind fun r => (evTg F t r.1 r.2).bind fun e1 => .ok (.nx, e1)
  | .asa o f e, env => ((ev F e).e env).bind fun r => (optR (settle r.1 r.2)).bind fun r => ((ev F o).e r.2).bind fun q => match q.1 with
    | .loc j => match get q.2 j with
      | some (.obj C fs) => (optR (ownR r.1 q.2)).bind fun z => if fs.length < 1000 ∧ F.cls C = true then .ok (.nx, z.2.set j (some (.obj C (putF f z.1 fs)))) else .stuck
      | _ => .stuck
    | _ => .stuck
  | .par2 i j a b, env => ((ev F a).e env).bind fun r => ((ev F b).e r.2).bind fun q => (optR (settle r.1 q.2)).bind fun r => (optR (settle q.1 r.2)).bind fun q =>
    (optR (put i r.1 q.2)).bind fun e1 => (optR (put j q.1 e1)).bind fun e2 => .ok (.nx, e2)
  | .par3 i j k a b c, env => ((ev F a).e env).bind fun r => ((ev F b).e r.2).bind fun q => ((ev F c).e q.2).bind fun w => (optR (settle r.1 w.2)).bind fun r => (optR (settle q.1 r.2)).bind fun q => (optR (settle w.1 q.2)).bind fun w =>
    (optR (put i r.1 w.2)).bind fun e1 => (optR (put j q.1 e1)).bind fun e2 => (optR (put k w.1 e2)).bind fun e3 => .ok (.nx, e3)
  | .aug i o e, env => match get env i with
    | some (.fz p) => ((ev F e).e env).bind fun r => match r.1 with
      | .val q => (optR (iopV o p q)).bind fun v => (optR (put i (.val v) r.2)).bind fun e1 => .ok (.nx, e1)
      | _ => .stuck
    | _ => .stuck
  | .augx _ _ _ _, _ => .stuck
  | .ite t a b, env => ((ev F t).t env).bind fun r => match r.1 with
    | true => evSs a r.2
    | false => evSs b r.2
  | .forr t it b, env => ((ev F it).i env).bind fun r => match r.1.2 with
    | .val _ => forGo (evTg F t) (evSs b) r.1.1 r.2
    | _ => .stuck
  | .whl t b, env => whF (ev F t).t (evSs b) env
  | .ret e, env => ((ev F e).e env).bind fun r => (giveBack r.1 r.2).bind fun q => .ok (.rt q.1, q.2)
  | .retn, env => .ok (.rt (.val .non), env)
  | .rai C, env => .exc C [] env
  | .raw C es, env => (evTs F es env).bind fun r => match r.1 with
    | [p] => .exc C [("word", p)] r.2
    | _ => .stuck
  | .tri b C n h, env => tryEnd F C n h (evSs b env)
  | .brk, env => .ok (.bk, env)
  | .cnt, env => .ok (.ct, env)
  | .pass, env => .ok (.nx, env)
noncomputable def evSs : Ss → Env → Res (Fl × Env)
  | .nil, env => .ok (.nx, env)
  | .cons s ss, env => (evS s env).bind fun r => match r.1 with
    | .nx => evSs ss r.2
    | f => .ok (f, r.2)
end
end
/-- a def: its parameters, all its slots, its body -/
structure Def where
  np : Nat
  ns : Nat
  body : Ss
def cellOf : Arg → Cell
  | .val p => .fz p
  | .own c => c
def env0 (d : Def) (args : List Arg) : Env := args.map (fun a => some (cellOf a)) ++ List.replicate (d.ns - d.np) none
def isOwn : List Arg → Bool
  | .own _ :: _ => true
  | _ => false
def endDef (args : List Arg) : Res (Fl × Env) → FRes
  | .ok (.nx, env) => if isOwn args = true then (match get env 0 with | some c => if isFz c = true then .stuck else .ok (.val .non) (some c) | none => .stuck) else .ok (.val .non) none
  | .ok (.rt (.loc _), _) => .stuck
  | .ok (.rt (.brw _ _ _), _) => .stuck
  | .ok (.rt r, env) => if isOwn args = true then (match get env 0 with | some c => if isFz c = true then .stuck else .ok r (some c) | none => .stuck) else .ok r none
  | .ok _ => .stuck
  | .exc C fs _ => .exc C fs
  | .stuck => .stuck
noncomputable def runD (F : Sem) (d : Def) (args : List Arg) : FRes := if args.length = d.np ∧ d.np ≤ d.ns then endDef args (evSs F d.body (env0 d args)) else .stuck
structure Prog where
  defs : Key → Option Def
  con : Str → Option PV
  sub : Str → Str → Option Bool
  cls : Str → Bool
  has : Str → Str → Bool
noncomputable def evF (P : Prog) : Nat → Key → List Arg → FRes
  | 0, _, _ => .stuck
  | n + 1, f, args => match P.defs f with
    | some d => runD ⟨evF P n, P.con, P.sub, P.cls, P.has⟩ d args
    | none => .stuck
/-- the program's meaning where calls may go n deep -/
noncomputable abbrev Prog.sem (P : Prog) (n : Nat) : Sem := ⟨evF P n, P.con, P.sub, P.cls, P.has⟩
end PL
set_option Elab.async false
set_option linter.all false
set_option maxRecDepth 100000
set_option maxHeartbeats 1000000
namespace PL
open PySem PySem.Spec PyProof.Rows L2
abbrev SlotV := List (Option V)
section
variable (K : PySem.W.Frag) (mg : Str → Option Value)
/-- the object of a dict of either kind -/
def DH (b : Bool) (o : Option HO) (ws : List (List L2.Key × V)) : Prop := match b with
  | true => o = some (.dT ws)
  | false => ∃ ks, o = some (.dK ks) ∧ ws = ks.map fun p => ([p.1], p.2)
/-- .. that stays locked -/
def DL (o : Option HO) (ws : List (List L2.Key × V)) : Prop := ∃ ob ks, o = some (.frz ob (.dK ks)) ∧ ws = ks.map fun p => ([p.1], p.2)
mutual
def Rp (S : Hp) : V → PV → Prop
  | v, .non => v = .non
  | v, .bl b => v = .bl b
  | v, .int i => v = .int i
  | v, .str x => v = .str x
  | v, .ty n => v = .ty n
  | v, .tup ps => ∃ a vs, v = .ref a ∧ S a = some (.tup vs) ∧ Rps S vs ps
  | v, .lst ps => ∃ a vs, v = .ref a ∧ S a = some (.lst vs) ∧ Rps S vs ps
  | v, .scr ns => ∃ a, v = .ref a ∧ SqL K S a (ns.map V.int)
  | v, .obj C fs => ∃ a c dx gs, v = .ref a ∧ mg C = some (.ref c) ∧ S a = some (.ins c dx gs) ∧ Rpf S gs fs
  | v, .dct b kvs => ∃ a ws, v = .ref a ∧ DH b (S a) ws ∧ Rpd S ws kvs
  | v, .dcl kvs => ∃ a ws, v = .ref a ∧ DL (S a) ws ∧ Rpd S ws kvs
def Rps (S : Hp) : List V → List PV → Prop
  | vs, [] => vs = []
  | vs, p :: ps => ∃ v r, vs = v :: r ∧ Rp S v p ∧ Rps S r ps
def Rpf (S : Hp) : List (Str × V) → List (Str × PV) → Prop
  | gs, [] => gs = []
  | gs, (f, p) :: ps => ∃ v r, gs = (f, v) :: r ∧ Rp S v p ∧ Rpf S r ps
def Rpd (S : Hp) : List (List L2.Key × V) → List (List L2.Key × PV) → Prop
  | gs, [] => gs = []
  | gs, (f, p) :: ps => ∃ v r, gs = (f, v) :: r ∧ Rp S v p ∧ Rpd S r ps
end
mutual
def CellOk (H S : Hp) : V → Cell → List Addr → Prop
  | v, .fz p, B => Rp K mg S v p ∧ B = []
  | v, .lst xs, B => ∃ a vs, v = .ref a ∧ H a = some (.lst vs) ∧ Rps K mg S vs xs ∧ B = [a]
  | v, .ls cs, B => ∃ a vs Bs, v = .ref a ∧ H a = some (.lst vs) ∧ CellsOk H S vs cs Bs ∧ a ∉ Bs ∧ B = a :: Bs
  | v, .dct b kvs, B => ∃ a ws, v = .ref a ∧ DH b (H a) ws ∧ Rpd K mg S ws kvs ∧ B = [a]
  | v, .obj C fs, B => ∃ a c dx gs Bs, v = .ref a ∧ mg C = some (.ref c) ∧ H a = some (.ins c dx gs) ∧ CellfOk H S gs fs Bs ∧ a ∉ Bs ∧ B = a :: Bs
def CellsOk (H S : Hp) : List V → List Cell → List Addr → Prop
  | vs, [], B => vs = [] ∧ B = []
  | vs, c :: cs, B => ∃ v r B1 B2, vs = v :: r ∧ B = B1 ++ B2 ∧ CellOk H S v c B1 ∧ CellsOk H S r cs B2 ∧ ∀ b ∈ B1, b ∉ B2
def CellfOk (H S : Hp) : List (Str × V) → List (Str × Cell) → List Addr → Prop
  | gs, [], B => gs = [] ∧ B = []
  | gs, (f, c) :: cs, B => ∃ v r B1 B2, gs = (f, v) :: r ∧ B = B1 ++ B2 ∧ CellOk H S v c B1 ∧ CellfOk H S r cs B2 ∧ ∀ b ∈ B1, b ∉ B2
end
/-- as it may be read now: the root in H, what lies within in S -/
def Rp1 (H S : Hp) (v : V) (p : PV) : Prop := match p with
  | .lst ps => ∃ a vs, v = .ref a ∧ H a = some (.lst vs) ∧ Rps K mg S vs ps
  | .obj C fs => ∃ a c dx gs, v = .ref a ∧ mg C = some (.ref c) ∧ H a = some (.ins c dx gs) ∧ Rpf K mg S gs fs
  | .dct b kvs => ∃ a ws, v = .ref a ∧ DH b (H a) ws ∧ Rpd K mg S ws kvs
  | p => Rp K mg S v p
end
/-- where a way into a value leads -/
def AtP (H : Hp) : V → List PSt → V → Prop
  | v, [], w => v = w
  | v, .ix n :: p, w => ∃ a vs u, v = .ref a ∧ H a = some (.lst vs) ∧ vs[n]? = some u ∧ AtP H u p w
  | v, .at f :: p, w => ∃ a c dx gs u, v = .ref a ∧ H a = some (.ins c dx gs) ∧ gs.lookup f = some u ∧ AtP H u p w
/-- what the slots own; the lent thing's root -/
structure Fp where
  at' : Nat → List Addr
  root : Option Addr
instance : CoeFun Fp (fun _ => Nat → List Addr) := ⟨Fp.at'⟩
def Own (As : Fp) (b : Addr) : Prop := ∃ i, b ∈ As i
/-- new, or a tuple -/
def Nw (o : Option HO) : Prop := o = none ∨ ∃ vs, o = some (.tup vs)
structure Stp (H S : Hp) (As : Fp) (H' S' : Hp) (As' : Fp) : Prop where
  same : Same S S'
  fr : ∀ b o, H b = some o → ¬ Own As b → H' b = some o
  own : ∀ b, Own As' b → Own As b ∨ H b = none
  new : ∀ b, S' b ≠ none → S b ≠ none ∨ Own As b ∨ Nw (H b)
  root : As'.root = As.root
structure Rel (K : PySem.W.Frag) (mg : Str → Option Value) (σ : SlotV) (env : Env) (H S : Hp) (As : Fp) : Prop where
  sub : Same S H
  len : σ.length = env.length
  cell : ∀ i c, get env i = some c → ∃ v, σ[i]? = some (some v) ∧ CellOk K mg H S v c (As i)
  emp : ∀ i, get env i = none → As i = []
  disj : ∀ i j a, i ≠ j → a ∈ As i → a ∉ As j
  free : ∀ a, Own As a → S a = none
  anc : ∀ a r, As 0 = a :: r → As.root = some a
def RvOk (K : PySem.W.Frag) (mg : Str → Option Value) (σ : SlotV) (H S : Hp) (As : Fp) (v : V) (rv : RV) (B : List Addr) : Prop := match rv with
  | .val p => Rp K mg S v p ∧ B = []
  | .loc j => σ[j]? = some (some v) ∧ B = []
  | .new c => CellOk K mg H S v c B ∧ ∀ b ∈ B, ¬ Own As b ∧ S b = none
  | .brw j p c => ∃ v0 d, σ[j]? = some (some v0) ∧ CellOk K mg H S v0 c B ∧ getC c p = some d ∧ AtP H v0 p v ∧ (∀ b ∈ B, ¬ Own As b ∧ S b = none) ∧ (j = 0 → ∀ a r, B = a :: r → As.root = some a)
section
variable {K : PySem.W.Frag} {mg : Str → Option Value} {H H' S S' H₀ S₀ H₁ S₁ : Hp} {As As' As₀ As₁ : Fp} {σ : SlotV} {env : Env}
theorem Same.sqT {a : Addr} {vs : List V} (e : Same S S') (h : SqT K S a vs) : SqT K S' a vs := by
  rcases h with (h | ⟨o, h⟩) | h
  · exact .inl (.inl (e _ _ h))
  · exact .inl (.inr ⟨o, e _ _ h⟩)
  · exact .inr h
theorem Same.sqL {a : Addr} {vs : List V} (e : Same S S') (h : SqL K S a vs) : SqL K S' a vs := e.seq h
theorem DH.sm {b : Bool} {o : Option HO} {ws : List (List L2.Key × V)} (h : DH b o ws) : o ≠ none := by
  cases b with
  | true => have h : o = some (.dT ws) := h; rw [h]; simp
  | false => obtain ⟨ks, h, _⟩ := h; rw [h]; simp
theorem DH.sn {b : Bool} {o : Option HO} {ws : List (List L2.Key × V)} (h : DH b o ws) : ¬ Nw o := by
  cases b with
  | true => have h : o = some (.dT ws) := h; rw [h]; rintro (z | ⟨_, z⟩) <;> cases z
  | false => obtain ⟨ks, h, _⟩ := h; rw [h]; rintro (z | ⟨_, z⟩) <;> cases z
theorem DH.mono (e : Same S S') {b : Bool} {a : Addr} {ws : List (List L2.Key × V)} (h : DH b (S a) ws) : DH b (S' a) ws := by
  cases b with
  | true => exact e _ _ h
  | false => obtain ⟨ks, h, h2⟩ := h; exact ⟨ks, e _ _ h, h2⟩
mutual
theorem Rp.mono (e : Same S S') : ∀ (p : PV) (v : V), Rp K mg S v p → Rp K mg S' v p
  | .non, v, h => h
  | .bl _, v, h => h
  | .int _, v, h => h
  | .str _, v, h => h
  | .ty _, v, h => h
  | .tup ps, v, h => by
    unfold Rp at h ⊢
    obtain ⟨a, vs, rfl, h1, h2⟩ := h
    exact ⟨a, vs, rfl, e _ _ h1, Rps.mono e ps vs h2⟩
  | .dct b kvs, v, h => by
    unfold Rp at h ⊢
    obtain ⟨a, ws, rfl, h1, h2⟩ := h
    exact ⟨a, ws, rfl, DH.mono e h1, Rpd.mono e kvs ws h2⟩
  | .dcl kvs, v, h => by
    unfold Rp at h ⊢
    obtain ⟨a, ws, rfl, ⟨ob, ks, h1, h3⟩, h2⟩ := h
    exact ⟨a, ws, rfl, ⟨ob, ks, e _ _ h1, h3⟩, Rpd.mono e kvs ws h2⟩
  | .lst ps, v, h => by
    unfold Rp at h ⊢
    obtain ⟨a, vs, rfl, h1, h2⟩ := h
    exact ⟨a, vs, rfl, e _ _ h1, Rps.mono e ps vs h2⟩
  | .scr ns, v, h => by
    unfold Rp at h ⊢
    obtain ⟨a, rfl, h1⟩ := h
    exact ⟨a, rfl, Same.sqL e h1⟩
  | .obj C fs, v, h => by
    unfold Rp at h ⊢
    obtain ⟨a, c, dx, gs, rfl, h0, h1, h2⟩ := h
    exact ⟨a, c, dx, gs, rfl, h0, e _ _ h1, Rpf.mono e fs gs h2⟩
theorem Rps.mono (e : Same S S') : ∀ (ps : List PV) (vs : List V), Rps K mg S vs ps → Rps K mg S' vs ps
  | [], vs, h => by unfold Rps at h ⊢; exact h
  | p :: ps, vs, h => by
    unfold Rps at h ⊢
    obtain ⟨v, r, rfl, h1, h2⟩ := h
    exact ⟨v, r, rfl, Rp.mono e p v h1, Rps.mono e ps r h2⟩
theorem Rpf.mono (e : Same S S') : ∀ (ps : List (Str × PV)) (vs : List (Str × V)), Rpf K mg S vs ps → Rpf K mg S' vs ps
  | [], vs, h => by unfold Rpf at h ⊢; exact h
  | (f, p) :: ps, vs, h => by
    unfold Rpf at h ⊢
    obtain ⟨v, r, rfl, h1, h2⟩ := h
    exact ⟨v, r, rfl, Rp.mono e p v h1, Rpf.mono e ps r h2⟩
theorem Rpd.mono (e : Same S S') : ∀ (ps : List (List L2.Key × PV)) (vs : List (List L2.Key × V)), Rpd K mg S vs ps → Rpd K mg S' vs ps
  | [], vs, h => by unfold Rpd at h ⊢; exact h
  | (f, p) :: ps, vs, h => by
    unfold Rpd at h ⊢
    obtain ⟨v, r, rfl, h1, h2⟩ := h
    exact ⟨v, r, rfl, Rp.mono e p v h1, Rpd.mono e ps r h2⟩
end
theorem Rps.length : ∀ {ps : List PV} {vs : List V}, Rps K mg S vs ps → vs.length = ps.length
  | [], vs, h => by unfold Rps at h; subst h; rfl
  | p :: ps, vs, h => by
    unfold Rps at h
    obtain ⟨v, r, rfl, _, h2⟩ := h
    simp [Rps.length h2]
theorem Rps.get : ∀ {ps : List PV} {vs : List V} {i : Nat} {p : PV}, Rps K mg S vs ps → ps[i]? = some p → ∃ v, vs[i]? = some v ∧ Rp K mg S v p
  | [], vs, i, p, h, e => by simp at e
  | q :: ps, vs, 0, p, h, e => by
    unfold Rps at h
    obtain ⟨v, r, rfl, h1, _⟩ := h
    simp at e; subst e
    exact ⟨v, rfl, h1⟩
  | q :: ps, vs, i + 1, p, h, e => by
    unfold Rps at h
    obtain ⟨v, r, rfl, _, h2⟩ := h
    obtain ⟨w, e1, e2⟩ := Rps.get (i := i) (p := p) h2 (by simpa using e)
    exact ⟨w, by simpa using e1, e2⟩
theorem Rps.append : ∀ {ps qs : List PV} {vs ws : List V}, Rps K mg S vs ps → Rps K mg S ws qs → Rps K mg S (vs ++ ws) (ps ++ qs)
  | [], qs, vs, ws, h, h' => by unfold Rps at h; subst h; exact h'
  | p :: ps, qs, vs, ws, h, h' => by
    unfold Rps at h
    obtain ⟨v, r, rfl, h1, h2⟩ := h
    show Rps K mg S (v :: (r ++ ws)) (p :: (ps ++ qs))
    unfold Rps
    exact ⟨v, r ++ ws, rfl, h1, Rps.append h2 h'⟩
theorem Rps.nil : Rps K mg S [] [] := by unfold Rps; rfl
theorem Rps.cons {v : V} {vs : List V} {p : PV} {ps : List PV} (h : Rp K mg S v p) (h' : Rps K mg S vs ps) : Rps K mg S (v :: vs) (p :: ps) := by
  unfold Rps; exact ⟨v, vs, rfl, h, h'⟩
theorem Rps.uncons {vs : List V} {p : PV} {ps : List PV} (h : Rps K mg S vs (p :: ps)) : ∃ v r, vs = v :: r ∧ Rp K mg S v p ∧ Rps K mg S r ps := by
  unfold Rps at h; exact h
theorem Rps.drop : ∀ {n : Nat} {ps : List PV} {vs : List V}, Rps K mg S vs ps → Rps K mg S (vs.drop n) (ps.drop n)
  | 0, ps, vs, h => h
  | n + 1, [], vs, h => by unfold Rps at h; subst h; simp; exact Rps.nil
  | n + 1, p :: ps, vs, h => by
    obtain ⟨v, r, rfl, _, h2⟩ := h.uncons
    exact Rps.drop (n := n) h2
theorem Rps.take : ∀ {n : Nat} {ps : List PV} {vs : List V}, Rps K mg S vs ps → Rps K mg S (vs.take n) (ps.take n)
  | 0, ps, vs, h => Rps.nil
  | n + 1, [], vs, h => by unfold Rps at h; subst h; simp; exact Rps.nil
  | n + 1, p :: ps, vs, h => by
    obtain ⟨v, r, rfl, h1, h2⟩ := h.uncons
    exact Rps.cons h1 (Rps.take (n := n) h2)
theorem Rps.set : ∀ {i : Nat} {ps : List PV} {vs : List V} {v : V} {p : PV}, Rps K mg S vs ps → Rp K mg S v p → Rps K mg S (vs.set i v) (ps.set i p)
  | i, [], vs, v, p, h, h' => by unfold Rps at h; subst h; simp; exact Rps.nil
  | 0, q :: ps, vs, v, p, h, h' => by
    obtain ⟨w, r, rfl, h1, h2⟩ := h.uncons
    exact Rps.cons h' h2
  | i + 1, q :: ps, vs, v, p, h, h' => by
    obtain ⟨w, r, rfl, h1, h2⟩ := h.uncons
    exact Rps.cons h1 (Rps.set (i := i) h2 h')
theorem Rps.eraseIdx : ∀ {i : Nat} {ps : List PV} {vs : List V}, Rps K mg S vs ps → Rps K mg S (vs.eraseIdx i) (ps.eraseIdx i)
  | i, [], vs, h => by unfold Rps at h; subst h; simp; exact Rps.nil
  | 0, q :: ps, vs, h => by
    obtain ⟨w, r, rfl, h1, h2⟩ := h.uncons
    exact h2
  | i + 1, q :: ps, vs, h => by
    obtain ⟨w, r, rfl, h1, h2⟩ := h.uncons
    exact Rps.cons h1 (Rps.eraseIdx (i := i) h2)
theorem Rps.dropLast {ps : List PV} {vs : List V} (h : Rps K mg S vs ps) : Rps K mg S vs.dropLast ps.dropLast := by
  rw [List.dropLast_eq_take, List.dropLast_eq_take, h.length]
  exact h.take
theorem Rps.ints : ∀ (ns : List Int), Rps K mg S (ns.map V.int) (ns.map PV.int)
  | [] => Rps.nil
  | n :: ns => Rps.cons (show Rp K mg S (.int n) (.int n) by unfold Rp; rfl) (Rps.ints ns)
theorem Rps.asInts : ∀ {ps : List PV} {vs : List V} {ns : List Int}, Rps K mg S vs ps → asInts ps = some ns → vs = ns.map V.int
  | [], vs, ns, h, e => by unfold Rps at h; cases e; exact h
  | p :: ps, vs, ns, h, e => by
    obtain ⟨v, r, rfl, h1, h2⟩ := h.uncons
    cases p with
    | int i =>
      simp only [PL.asInts, Option.map_eq_some_iff] at e
      obtain ⟨ms, e1, rfl⟩ := e
      unfold Rp at h1
      rw [h1, Rps.asInts h2 e1]
      rfl
    | _ => simp [PL.asInts] at e
theorem Rps.asBls : ∀ {ps : List PV} {vs : List V} {ns : List Bool}, Rps K mg S vs ps → asBls ps = some ns → vs = ns.map V.bl
  | [], vs, ns, h, e => by unfold Rps at h; cases e; exact h
  | p :: ps, vs, ns, h, e => by
    obtain ⟨v, r, rfl, h1, h2⟩ := h.uncons
    cases p with
    | bl i =>
      simp only [PL.asBls, Option.map_eq_some_iff] at e
      obtain ⟨ms, e1, rfl⟩ := e
      unfold Rp at h1
      rw [h1, Rps.asBls h2 e1]
      rfl
    | _ => simp [PL.asBls] at e
mutual
theorem Rp.dp : ∀ (p : PV) (v : V) (d : PyData), Rp K mg H v p → toD p = some d → Dp K H v d
  | .non, v, d, h, e => by unfold Rp at h; unfold toD at e; cases e; subst h; exact .non
  | .bl _, v, d, h, e => by unfold Rp at h; unfold toD at e; cases e; subst h; exact .bl _
  | .int _, v, d, h, e => by unfold Rp at h; unfold toD at e; cases e; subst h; exact .int _
  | .str _, v, d, h, e => by unfold Rp at h; unfold toD at e; cases e; subst h; exact .str _
  | .ty _, v, d, h, e => by unfold toD at e; cases e
  | .scr _, v, d, h, e => by unfold toD at e; cases e
  | .obj _ _, v, d, h, e => by unfold toD at e; cases e
  | .dct _ _, v, d, h, e => by unfold toD at e; cases e
  | .dcl _, v, d, h, e => by unfold toD at e; cases e
  | .tup ps, v, d, h, e => by
    unfold Rp at h
    obtain ⟨a, vs, rfl, h1, h2⟩ := h
    unfold toD at e
    simp only [Option.map_eq_some_iff] at e
    obtain ⟨ds, e1, rfl⟩ := e
    exact .tup (SqT.of h1) (Rps.dp ps vs ds h2 e1)
  | .lst ps, v, d, h, e => by
    unfold Rp at h
    obtain ⟨a, vs, rfl, h1, h2⟩ := h
    unfold toD at e
    simp only [Option.map_eq_some_iff] at e
    obtain ⟨ds, e1, rfl⟩ := e
    exact .lst (SqL.of h1) (Rps.dp ps vs ds h2 e1)
theorem Rps.dp : ∀ (ps : List PV) (vs : List V) (ds : List PyData), Rps K mg H vs ps → toDs ps = some ds → DpAll K H vs ds
  | [], vs, ds, h, e => by unfold Rps at h; unfold toDs at e; cases e; subst h; exact .nil
  | p :: ps, vs, ds, h, e => by
    obtain ⟨v, r, rfl, h1, h2⟩ := h.uncons
    unfold toDs at e
    split at e
    · rename_i d ds' e1 e2
      cases e
      exact .cons (Rp.dp p v d h1 e1) (Rps.dp ps r ds' h2 e2)
    · cases e
end
theorem Rp1.rp (sub : Same S H) {v : V} {p : PV} (h : Rp1 K mg H S v p) : Rp K mg H v p := by
  cases p with
  | lst ps =>
    obtain ⟨a, vs, rfl, h1, h2⟩ := h
    unfold Rp
    exact ⟨a, vs, rfl, h1, Rps.mono sub _ _ h2⟩
  | obj C fs =>
    obtain ⟨a, c, dx, gs, rfl, h0, h1, h2⟩ := h
    unfold Rp
    exact ⟨a, c, dx, gs, rfl, h0, h1, Rpf.mono sub _ _ h2⟩
  | dct b kvs =>
    obtain ⟨a, ws, rfl, h1, h2⟩ := h
    unfold Rp
    exact ⟨a, ws, rfl, h1, Rpd.mono sub _ _ h2⟩
  | _ => exact Rp.mono sub _ _ h
theorem Rp.rp1 (sub : Same S H) {v : V} {p : PV} (h : Rp K mg S v p) : Rp1 K mg H S v p := by
  cases p with
  | lst ps =>
    unfold Rp at h
    obtain ⟨a, vs, rfl, h1, h2⟩ := h
    exact ⟨a, vs, rfl, sub _ _ h1, h2⟩
  | obj C fs =>
    unfold Rp at h
    obtain ⟨a, c, dx, gs, rfl, h0, h1, h2⟩ := h
    exact ⟨a, c, dx, gs, rfl, h0, sub _ _ h1, h2⟩
  | dct b kvs =>
    unfold Rp at h
    obtain ⟨a, ws, rfl, h1, h2⟩ := h
    exact ⟨a, ws, rfl, DH.mono sub h1, h2⟩
  | _ => exact h
/-- a value that stands in H is read there -/
theorem Rp.self {v : V} {p : PV} (h : Rp K mg H v p) : Rp1 K mg H H v p := Rp.rp1 (Same.refl _) h
mutual
/-- a cell's objects untouched -/
theorem CellOk.fr (e : Same S S') : ∀ (c : Cell) (v : V) (B : List Addr), CellOk K mg H S v c B → (∀ b ∈ B, H' b = H b) → CellOk K mg H' S' v c B
  | .fz p, v, B, h, hk => by unfold CellOk at h ⊢; exact ⟨Rp.mono e _ _ h.1, h.2⟩
  | .lst xs, v, B, h, hk => by
    unfold CellOk at h ⊢
    obtain ⟨a, vs, rfl, h1, h2, rfl⟩ := h
    exact ⟨a, vs, rfl, (hk a List.mem_cons_self).trans h1, Rps.mono e _ _ h2, rfl⟩
  | .ls cs, v, B, h, hk => by
    unfold CellOk at h ⊢
    obtain ⟨a, vs, Bs, rfl, h1, h2, h3, rfl⟩ := h
    exact ⟨a, vs, Bs, rfl, (hk a List.mem_cons_self).trans h1, CellsOk.fr e cs vs Bs h2 (fun b hb => hk b (List.mem_cons_of_mem _ hb)), h3, rfl⟩
  | .dct b kvs, v, B, h, hk => by
    unfold CellOk at h ⊢
    obtain ⟨a, ws, rfl, h1, h2, rfl⟩ := h
    exact ⟨a, ws, rfl, by rw [hk a List.mem_cons_self]; exact h1, Rpd.mono e _ _ h2, rfl⟩
  | .obj C fs, v, B, h, hk => by
    unfold CellOk at h ⊢
    obtain ⟨a, c, dx, gs, Bs, rfl, h0, h1, h2, h3, rfl⟩ := h
    exact ⟨a, c, dx, gs, Bs, rfl, h0, (hk a List.mem_cons_self).trans h1, CellfOk.fr e fs gs Bs h2 (fun b hb => hk b (List.mem_cons_of_mem _ hb)), h3, rfl⟩
theorem CellsOk.fr (e : Same S S') : ∀ (cs : List Cell) (vs : List V) (B : List Addr), CellsOk K mg H S vs cs B → (∀ b ∈ B, H' b = H b) → CellsOk K mg H' S' vs cs B
  | [], vs, B, h, hk => by unfold CellsOk at h ⊢; exact h
  | c :: cs, vs, B, h, hk => by
    unfold CellsOk at h ⊢
    obtain ⟨v, r, B1, B2, rfl, rfl, h1, h2, h3⟩ := h
    exact ⟨v, r, B1, B2, rfl, rfl, CellOk.fr e c v B1 h1 (fun b hb => hk b (List.mem_append_left _ hb)), CellsOk.fr e cs r B2 h2 (fun b hb => hk b (List.mem_append_right _ hb)), h3⟩
theorem CellfOk.fr (e : Same S S') : ∀ (cs : List (Str × Cell)) (vs : List (Str × V)) (B : List Addr), CellfOk K mg H S vs cs B → (∀ b ∈ B, H' b = H b) → CellfOk K mg H' S' vs cs B
  | [], vs, B, h, hk => by unfold CellfOk at h ⊢; exact h
  | (f, c) :: cs, vs, B, h, hk => by
    unfold CellfOk at h ⊢
    obtain ⟨v, r, B1, B2, rfl, rfl, h1, h2, h3⟩ := h
    exact ⟨v, r, B1, B2, rfl, rfl, CellOk.fr e c v B1 h1 (fun b hb => hk b (List.mem_append_left _ hb)), CellfOk.fr e cs r B2 h2 (fun b hb => hk b (List.mem_append_right _ hb)), h3⟩
end
mutual
theorem CellOk.there : ∀ (c : Cell) (v : V) (B : List Addr), CellOk K mg H S v c B → ∀ b ∈ B, H b ≠ none
  | .fz p, v, B, h, b, hb => by unfold CellOk at h; rw [h.2] at hb; cases hb
  | .lst xs, v, B, h, b, hb => by
    unfold CellOk at h
    obtain ⟨a, vs, rfl, h1, h2, rfl⟩ := h
    obtain rfl : b = a := by simpa using hb
    rw [h1]; simp
  | .ls cs, v, B, h, b, hb => by
    unfold CellOk at h
    obtain ⟨a, vs, Bs, rfl, h1, h2, h3, rfl⟩ := h
    rcases List.mem_cons.mp hb with rfl | hb
    · rw [h1]; simp
    · exact CellsOk.there cs vs Bs h2 b hb
  | .dct bb kvs, v, B, h, b, hb => by
    unfold CellOk at h
    obtain ⟨a, ws, rfl, h1, h2, rfl⟩ := h
    obtain rfl : b = a := by simpa using hb
    exact h1.sm
  | .obj C fs, v, B, h, b, hb => by
    unfold CellOk at h
    obtain ⟨a, c, dx, gs, Bs, rfl, h0, h1, h2, h3, rfl⟩ := h
    rcases List.mem_cons.mp hb with rfl | hb
    · rw [h1]; simp
    · exact CellfOk.there fs gs Bs h2 b hb
theorem CellsOk.there : ∀ (cs : List Cell) (vs : List V) (B : List Addr), CellsOk K mg H S vs cs B → ∀ b ∈ B, H b ≠ none
  | [], vs, B, h, b, hb => by unfold CellsOk at h; rw [h.2] at hb; cases hb
  | c :: cs, vs, B, h, b, hb => by
    unfold CellsOk at h
    obtain ⟨v, r, B1, B2, rfl, rfl, h1, h2, h3⟩ := h
    rcases List.mem_append.mp hb with hb | hb
    · exact CellOk.there c v B1 h1 b hb
    · exact CellsOk.there cs r B2 h2 b hb
theorem CellfOk.there : ∀ (cs : List (Str × Cell)) (vs : List (Str × V)) (B : List Addr), CellfOk K mg H S vs cs B → ∀ b ∈ B, H b ≠ none
  | [], vs, B, h, b, hb => by unfold CellfOk at h; rw [h.2] at hb; cases hb
  | (f, c) :: cs, vs, B, h, b, hb => by
    unfold CellfOk at h
    obtain ⟨v, r, B1, B2, rfl, rfl, h1, h2, h3⟩ := h
    rcases List.mem_append.mp hb with hb | hb
    · exact CellOk.there c v B1 h1 b hb
    · exact CellfOk.there cs r B2 h2 b hb
end
mutual
theorem CellOk.thereN : ∀ (c : Cell) (v : V) (B : List Addr), CellOk K mg H S v c B → ∀ b ∈ B, ¬ Nw (H b)
  | .fz p, v, B, h, b, hb => by unfold CellOk at h; rw [h.2] at hb; cases hb
  | .lst xs, v, B, h, b, hb => by
    unfold CellOk at h
    obtain ⟨a, vs, rfl, h1, h2, rfl⟩ := h
    obtain rfl : b = a := by simpa using hb
    rw [h1]; rintro (z | ⟨_, z⟩) <;> cases z
  | .ls cs, v, B, h, b, hb => by
    unfold CellOk at h
    obtain ⟨a, vs, Bs, rfl, h1, h2, h3, rfl⟩ := h
    rcases List.mem_cons.mp hb with rfl | hb
    · rw [h1]; rintro (z | ⟨_, z⟩) <;> cases z
    · exact CellsOk.thereN cs vs Bs h2 b hb
  | .dct bb kvs, v, B, h, b, hb => by
    unfold CellOk at h
    obtain ⟨a, ws, rfl, h1, h2, rfl⟩ := h
    obtain rfl : b = a := by simpa using hb
    exact h1.sn
  | .obj C fs, v, B, h, b, hb => by
    unfold CellOk at h
    obtain ⟨a, c, dx, gs, Bs, rfl, h0, h1, h2, h3, rfl⟩ := h
    rcases List.mem_cons.mp hb with rfl | hb
    · rw [h1]; rintro (z | ⟨_, z⟩) <;> cases z
    · exact CellfOk.thereN fs gs Bs h2 b hb
theorem CellsOk.thereN : ∀ (cs : List Cell) (vs : List V) (B : List Addr), CellsOk K mg H S vs cs B → ∀ b ∈ B, ¬ Nw (H b)
  | [], vs, B, h, b, hb => by unfold CellsOk at h; rw [h.2] at hb; cases hb
  | c :: cs, vs, B, h, b, hb => by
    unfold CellsOk at h
    obtain ⟨v, r, B1, B2, rfl, rfl, h1, h2, h3⟩ := h
    rcases List.mem_append.mp hb with hb | hb
    · exact CellOk.thereN c v B1 h1 b hb
    · exact CellsOk.thereN cs r B2 h2 b hb
theorem CellfOk.thereN : ∀ (cs : List (Str × Cell)) (vs : List (Str × V)) (B : List Addr), CellfOk K mg H S vs cs B → ∀ b ∈ B, ¬ Nw (H b)
  | [], vs, B, h, b, hb => by unfold CellfOk at h; rw [h.2] at hb; cases hb
  | (f, c) :: cs, vs, B, h, b, hb => by
    unfold CellfOk at h
    obtain ⟨v, r, B1, B2, rfl, rfl, h1, h2, h3⟩ := h
    rcases List.mem_append.mp hb with hb | hb
    · exact CellOk.thereN c v B1 h1 b hb
    · exact CellfOk.thereN cs r B2 h2 b hb
end
mutual
/-- frozen, where its objects count as such -/
theorem CellOk.rpO {T : Hp} (e : Same S T) : ∀ (c : Cell) (v : V) (B : List Addr), CellOk K mg H S v c B → (∀ b ∈ B, T b = H b) → Rp K mg T v c.pv
  | .fz p, v, B, h, _ => by unfold CellOk at h; unfold Cell.pv; exact Rp.mono e _ _ h.1
  | .lst xs, v, B, h, hk => by
    unfold CellOk at h
    obtain ⟨a, vs, rfl, h1, h2, rfl⟩ := h
    unfold Cell.pv Rp
    exact ⟨a, vs, rfl, (hk a List.mem_cons_self).trans h1, Rps.mono e _ _ h2⟩
  | .ls cs, v, B, h, hk => by
    unfold CellOk at h
    obtain ⟨a, vs, Bs, rfl, h1, h2, h3, rfl⟩ := h
    unfold Cell.pv Rp
    exact ⟨a, vs, rfl, (hk a List.mem_cons_self).trans h1, CellsOk.rpO e cs vs Bs h2 fun b hb => hk b (List.mem_cons_of_mem _ hb)⟩
  | .dct b kvs, v, B, h, hk => by
    unfold CellOk at h
    obtain ⟨a, ws, rfl, h1, h2, rfl⟩ := h
    unfold Cell.pv Rp
    exact ⟨a, ws, rfl, by rw [hk a List.mem_cons_self]; exact h1, Rpd.mono e _ _ h2⟩
  | .obj C fs, v, B, h, hk => by
    unfold CellOk at h
    obtain ⟨a, c, dx, gs, Bs, rfl, h0, h1, h2, h3, rfl⟩ := h
    unfold Cell.pv Rp
    exact ⟨a, c, dx, gs, rfl, h0, (hk a List.mem_cons_self).trans h1, CellfOk.rpO e fs gs Bs h2 fun b hb => hk b (List.mem_cons_of_mem _ hb)⟩
theorem CellsOk.rpO {T : Hp} (e : Same S T) : ∀ (cs : List Cell) (vs : List V) (B : List Addr), CellsOk K mg H S vs cs B → (∀ b ∈ B, T b = H b) → Rps K mg T vs (pvs cs)
  | [], vs, B, h, _ => by unfold CellsOk at h; unfold pvs Rps; exact h.1
  | c :: cs, vs, B, h, hk => by
    unfold CellsOk at h
    obtain ⟨v, r, B1, B2, rfl, rfl, h1, h2, h3⟩ := h
    unfold pvs Rps
    exact ⟨v, r, rfl, CellOk.rpO e c v B1 h1 fun b hb => hk b (List.mem_append_left _ hb), CellsOk.rpO e cs r B2 h2 fun b hb => hk b (List.mem_append_right _ hb)⟩
theorem CellfOk.rpO {T : Hp} (e : Same S T) : ∀ (cs : List (Str × Cell)) (vs : List (Str × V)) (B : List Addr), CellfOk K mg H S vs cs B → (∀ b ∈ B, T b = H b) → Rpf K mg T vs (pvf cs)
  | [], vs, B, h, _ => by unfold CellfOk at h; unfold pvf Rpf; exact h.1
  | (f, c) :: cs, vs, B, h, hk => by
    unfold CellfOk at h
    obtain ⟨v, r, B1, B2, rfl, rfl, h1, h2, h3⟩ := h
    unfold pvf Rpf
    exact ⟨v, r, rfl, CellOk.rpO e c v B1 h1 fun b hb => hk b (List.mem_append_left _ hb), CellfOk.rpO e cs r B2 h2 fun b hb => hk b (List.mem_append_right _ hb)⟩
end
/-- all of it in H -/
theorem CellOk.rpH (sub : Same S H) {c : Cell} {v : V} {B : List Addr} (h : CellOk K mg H S v c B) : Rp K mg H v c.pv := CellOk.rpO sub c v B h fun _ _ => rfl
theorem CellsOk.flat : ∀ {cs : List Cell} {vs : List V} {B : List Addr}, CellsOk K mg H S vs cs B → cs.all isFz = true → Rps K mg S vs (pvs cs)
  | [], vs, B, h, _ => by unfold CellsOk at h; unfold pvs Rps; exact h.1
  | c :: cs, vs, B, h, hf => by
    unfold CellsOk at h
    obtain ⟨v, r, B1, B2, rfl, rfl, h1, h2, h3⟩ := h
    rw [List.all_cons, Bool.and_eq_true] at hf
    unfold pvs Rps
    refine ⟨v, r, rfl, ?_, CellsOk.flat h2 hf.2⟩
    cases c with
    | fz p => unfold CellOk at h1; unfold Cell.pv; exact h1.1
    | _ => cases hf.1
theorem CellfOk.flat : ∀ {cs : List (Str × Cell)} {vs : List (Str × V)} {B : List Addr}, CellfOk K mg H S vs cs B → (cs.all fun q => isFz q.2) = true → Rpf K mg S vs (pvf cs)
  | [], vs, B, h, _ => by unfold CellfOk at h; unfold pvf Rpf; exact h.1
  | (f, c) :: cs, vs, B, h, hf => by
    unfold CellfOk at h
    obtain ⟨v, r, B1, B2, rfl, rfl, h1, h2, h3⟩ := h
    rw [List.all_cons, Bool.and_eq_true] at hf
    unfold pvf Rpf
    refine ⟨v, r, rfl, ?_, CellfOk.flat h2 hf.2⟩
    cases c with
    | fz p => unfold CellOk at h1; unfold Cell.pv; exact h1.1
    | _ => cases hf.1
/-- read where its parts stay -/
theorem CellOk.rp1 (sub : Same S H) {c : Cell} {v : V} {B : List Addr} (h : CellOk K mg H S v c B) (hf : flat c = true) : Rp1 K mg H S v c.pv := by
  cases c with
  | fz p => unfold CellOk at h; unfold Cell.pv; exact h.1.rp1 sub
  | lst xs => unfold CellOk at h; obtain ⟨a, vs, rfl, h1, h2, rfl⟩ := h; exact ⟨a, vs, rfl, h1, h2⟩
  | ls cs => unfold CellOk at h; obtain ⟨a, vs, Bs, rfl, h1, h2, h3, rfl⟩ := h; exact ⟨a, vs, rfl, h1, h2.flat hf⟩
  | dct b kvs => unfold CellOk at h; obtain ⟨a, ws, rfl, h1, h2, rfl⟩ := h; exact ⟨a, ws, rfl, h1, h2⟩
  | obj C fs => unfold CellOk at h; obtain ⟨a, c, dx, gs, Bs, rfl, h0, h1, h2, h3, rfl⟩ := h; exact ⟨a, c, dx, gs, rfl, h0, h1, h2.flat hf⟩
theorem AtP.fr : ∀ {p : List PSt} {c d : Cell} {v w : V} {B : List Addr}, CellOk K mg H S v c B → getC c p = some d → AtP H v p w → (∀ b ∈ B, H' b = H b) → AtP H' v p w
  | [], c, d, v, w, B, _, _, h, _ => h
  | .ix n :: p, c, d, v, w, B, hc, hg, h, hk => by
    cases c with
    | ls cs =>
      unfold CellOk at hc
      obtain ⟨a, vs, Bs, rfl, h1, h2, h3, rfl⟩ := hc
      obtain ⟨a', vs', u, e, h1', hu, h⟩ := h
      cases e
      rw [h1] at h1'
      cases h1'
      refine ⟨a, vs, u, rfl, (hk a List.mem_cons_self).trans h1, hu, ?_⟩
      unfold getC at hg
      cases hn : cs[n]? with
      | none => rw [hn] at hg; cases hg
      | some c0 =>
        rw [hn] at hg
        have key : ∀ {cs : List Cell} {vs : List V} {Bs : List Addr} {n : Nat}, CellsOk K mg H S vs cs Bs → cs[n]? = some c0 → vs[n]? = some u → ∃ B0, CellOk K mg H S u c0 B0 ∧ ∀ b ∈ B0, b ∈ Bs := by
          intro cs
          induction cs with
          | nil => intro vs Bs n _ q _; cases q
          | cons x xs ih =>
            intro vs Bs n hx q qv
            unfold CellsOk at hx
            obtain ⟨v, r, B1, B2, rfl, rfl, g1, g2, g3⟩ := hx
            cases n with
            | zero =>
              cases q; cases qv
              exact ⟨B1, g1, fun b hb => List.mem_append_left _ hb⟩
            | succ n =>
              obtain ⟨B0, k1, k2⟩ := ih g2 q qv
              exact ⟨B0, k1, fun b hb => List.mem_append_right _ (k2 b hb)⟩
        obtain ⟨B0, k1, k2⟩ := key h2 hn hu
        exact AtP.fr k1 hg h fun b hb => hk b (List.mem_cons_of_mem _ (k2 b hb))
    | _ => cases hg
  | .at f :: p, c, d, v, w, B, hc, hg, h, hk => by
    cases c with
    | obj C fs =>
      unfold CellOk at hc
      obtain ⟨a, cc, dx, gs, Bs, rfl, h0, h1, h2, h3, rfl⟩ := hc
      obtain ⟨a', cc', dx', gs', u, e, h1', hu, h⟩ := h
      cases e
      rw [h1] at h1'
      cases h1'
      refine ⟨a, cc, dx, gs, u, rfl, (hk a List.mem_cons_self).trans h1, hu, ?_⟩
      unfold getC at hg
      cases hn : fs.lookup f with
      | none => rw [hn] at hg; cases hg
      | some c0 =>
        rw [hn] at hg
        have key : ∀ {cs : List (Str × Cell)} {vs : List (Str × V)} {Bs : List Addr}, CellfOk K mg H S vs cs Bs → cs.lookup f = some c0 → vs.lookup f = some u → ∃ B0, CellOk K mg H S u c0 B0 ∧ ∀ b ∈ B0, b ∈ Bs := by
          intro cs
          induction cs with
          | nil => intro vs Bs _ q _; cases q
          | cons x xs ih =>
            intro vs Bs hx q qv
            obtain ⟨g, x⟩ := x
            unfold CellfOk at hx
            obtain ⟨v, r, B1, B2, rfl, rfl, g1, g2, g3⟩ := hx
            rw [List.lookup_cons] at q qv
            cases hb : f == g with
            | true =>
              rw [hb] at q qv
              cases q; cases qv
              exact ⟨B1, g1, fun b hb => List.mem_append_left _ hb⟩
            | false =>
              rw [hb] at q qv
              obtain ⟨B0, k1, k2⟩ := ih g2 q qv
              exact ⟨B0, k1, fun b hb => List.mem_append_right _ (k2 b hb)⟩
        obtain ⟨B0, k1, k2⟩ := key h2 hn hu
        exact AtP.fr k1 hg h fun b hb => hk b (List.mem_cons_of_mem _ (k2 b hb))
    | _ => cases hg
/-- a part of a row of cells, and another one in its place -/
theorem CellsOk.part : ∀ {cs : List Cell} {vs : List V} {Bs : List Addr} {n : Nat} {c0 : Cell}, CellsOk K mg H S vs cs Bs → cs[n]? = some c0 → ∃ u B0, vs[n]? = some u ∧ CellOk K mg H S u c0 B0 ∧ (∀ b ∈ B0, b ∈ Bs) ∧
    ∀ (H' S' : Hp) (d : Cell) (D : List Addr), CellOk K mg H' S' u d D → Same S S' → (∀ b ∈ Bs, b ∉ B0 → H' b = H b) → (∀ b ∈ D, b ∈ B0 ∨ b ∉ Bs) → ∃ Bs', CellsOk K mg H' S' vs (cs.set n d) Bs' ∧ ∀ b ∈ Bs', b ∈ D ∨ (b ∈ Bs ∧ b ∉ B0)
  | [], vs, Bs, n, c0, _, q => by cases q
  | x :: xs, vs, Bs, n, c0, h, q => by
    unfold CellsOk at h
    obtain ⟨v, r, B1, B2, rfl, rfl, g1, g2, g3⟩ := h
    cases n with
    | zero =>
      cases q
      refine ⟨v, B1, rfl, g1, fun b hb => List.mem_append_left _ hb, fun H' S' d D hd sm hk hD => ⟨D ++ B2, ?_, fun b hb => ?_⟩⟩
      · show CellsOk K mg H' S' (v :: r) (d :: xs) (D ++ B2)
        unfold CellsOk
        refine ⟨v, r, D, B2, rfl, rfl, hd, CellsOk.fr sm xs r B2 g2 fun b hb => hk b (List.mem_append_right _ hb) fun z => g3 b z hb, fun b hb z => ?_⟩
        rcases hD b hb with w | w
        · exact g3 b w z
        · exact w (List.mem_append_right _ z)
      · rcases List.mem_append.mp hb with hb | hb
        · exact .inl hb
        · exact .inr ⟨List.mem_append_right _ hb, fun z => g3 b z hb⟩
    | succ n =>
      obtain ⟨u, B0, k1, k2, k3, k4⟩ := CellsOk.part (n := n) g2 q
      refine ⟨u, B0, k1, k2, fun b hb => List.mem_append_right _ (k3 b hb), fun H' S' d D hd sm hk hD => ?_⟩
      obtain ⟨Bs', m1, m2⟩ := k4 H' S' d D hd sm (fun b hb n => hk b (List.mem_append_right _ hb) n) fun b hb => (hD b hb).imp id fun z w => z (List.mem_append_right _ w)
      refine ⟨B1 ++ Bs', ?_, fun b hb => ?_⟩
      · show CellsOk K mg H' S' (v :: r) (x :: xs.set n d) (B1 ++ Bs')
        unfold CellsOk
        refine ⟨v, r, B1, Bs', rfl, rfl, CellOk.fr sm x v B1 g1 fun b hb => hk b (List.mem_append_left _ hb) fun z => g3 b hb (k3 b z), m1, fun b hb z => ?_⟩
        rcases m2 b z with w | w
        · rcases hD b w with y | y
          · exact g3 b hb (k3 b y)
          · exact y (List.mem_append_left _ hb)
        · exact g3 b hb w.1
      · rcases List.mem_append.mp hb with hb | hb
        · exact .inr ⟨List.mem_append_left _ hb, fun z => g3 b hb (k3 b z)⟩
        · exact (m2 b hb).imp id fun z => ⟨List.mem_append_right _ z.1, z.2⟩
theorem CellfOk.part : ∀ {cs : List (Str × Cell)} {vs : List (Str × V)} {Bs : List Addr} {f : Str} {c0 : Cell}, CellfOk K mg H S vs cs Bs → cs.lookup f = some c0 → ∃ u B0, vs.lookup f = some u ∧ CellOk K mg H S u c0 B0 ∧ (∀ b ∈ B0, b ∈ Bs) ∧
    ∀ (H' S' : Hp) (d : Cell) (D : List Addr), CellOk K mg H' S' u d D → Same S S' → (∀ b ∈ Bs, b ∉ B0 → H' b = H b) → (∀ b ∈ D, b ∈ B0 ∨ b ∉ Bs) → ∃ Bs', CellfOk K mg H' S' vs (setF f d cs) Bs' ∧ ∀ b ∈ Bs', b ∈ D ∨ (b ∈ Bs ∧ b ∉ B0)
  | [], vs, Bs, f, c0, _, q => by cases q
  | (g, x) :: xs, vs, Bs, f, c0, h, q => by
    unfold CellfOk at h
    obtain ⟨v, r, B1, B2, rfl, rfl, g1, g2, g3⟩ := h
    rw [List.lookup_cons] at q
    cases hb : f == g with
    | true =>
      rw [hb] at q
      cases q
      refine ⟨v, B1, by rw [List.lookup_cons, hb], g1, fun b hb => List.mem_append_left _ hb, fun H' S' d D hd sm hk hD => ⟨D ++ B2, ?_, fun b hb => ?_⟩⟩
      · show CellfOk K mg H' S' ((g, v) :: r) (if f == g then (g, d) :: xs else (g, x) :: setF f d xs) (D ++ B2)
        rw [hb, if_pos rfl]
        unfold CellfOk
        refine ⟨v, r, D, B2, rfl, rfl, hd, CellfOk.fr sm xs r B2 g2 fun b hb => hk b (List.mem_append_right _ hb) fun z => g3 b z hb, fun b hb z => ?_⟩
        rcases hD b hb with w | w
        · exact g3 b w z
        · exact w (List.mem_append_right _ z)
      · rcases List.mem_append.mp hb with hb | hb
        · exact .inl hb
        · exact .inr ⟨List.mem_append_right _ hb, fun z => g3 b z hb⟩
    | false =>
      rw [hb] at q
      obtain ⟨u, B0, k1, k2, k3, k4⟩ := CellfOk.part g2 q
      refine ⟨u, B0, by rw [List.lookup_cons, hb]; exact k1, k2, fun b hb => List.mem_append_right _ (k3 b hb), fun H' S' d D hd sm hk hD => ?_⟩
      obtain ⟨Bs', m1, m2⟩ := k4 H' S' d D hd sm (fun b hb n => hk b (List.mem_append_right _ hb) n) fun b hb => (hD b hb).imp id fun z w => z (List.mem_append_right _ w)
      refine ⟨B1 ++ Bs', ?_, fun b hb => ?_⟩
      · show CellfOk K mg H' S' ((g, v) :: r) (if f == g then (g, d) :: xs else (g, x) :: setF f d xs) (B1 ++ Bs')
        rw [hb, if_neg (by decide)]
        unfold CellfOk
        refine ⟨v, r, B1, Bs', rfl, rfl, CellOk.fr sm x v B1 g1 fun b hb => hk b (List.mem_append_left _ hb) fun z => g3 b hb (k3 b z), m1, fun b hb z => ?_⟩
        rcases m2 b z with w | w
        · rcases hD b w with y | y
          · exact g3 b hb (k3 b y)
          · exact y (List.mem_append_left _ hb)
        · exact g3 b hb w.1
      · rcases List.mem_append.mp hb with hb | hb
        · exact .inr ⟨List.mem_append_left _ hb, fun z => g3 b hb (k3 b z)⟩
        · exact (m2 b hb).imp id fun z => ⟨List.mem_append_right _ z.1, z.2⟩
/-- the part at the end of a way, and another one in its place -/
theorem CellOk.part : ∀ {p : List PSt} {c d0 : Cell} {v : V} {B : List Addr}, CellOk K mg H S v c B → getC c p = some d0 → ∃ w B0, AtP H v p w ∧ CellOk K mg H S w d0 B0 ∧ (∀ b ∈ B0, b ∈ B) ∧
    (∀ (H' S' : Hp) (d : Cell) (D : List Addr), CellOk K mg H' S' w d D → Same S S' → (∀ b ∈ B, b ∉ B0 → H' b = H b) → (∀ b ∈ D, b ∈ B0 ∨ b ∉ B) → ∃ B', CellOk K mg H' S' v (setC c p d) B' ∧ (∀ b ∈ B', b ∈ D ∨ (b ∈ B ∧ b ∉ B0)) ∧ (p ≠ [] → ∀ a r, B = a :: r → ∃ r', B' = a :: r'))
  | [], c, d0, v, B, h, q => by
    unfold getC at q
    cases q
    refine ⟨v, B, rfl, h, fun b hb => hb, fun H' S' d D hd sm hk hD => ⟨D, ?_, fun b hb => .inl hb, fun z => absurd rfl z⟩⟩
    unfold setC
    exact hd
  | .ix n :: p, c, d0, v, B, h, q => by
    cases c with
    | ls cs =>
      unfold CellOk at h
      obtain ⟨a, vs, Bs, rfl, h1, h2, h3, rfl⟩ := h
      unfold getC at q
      cases hn : cs[n]? with
      | none => rw [hn] at q; cases q
      | some c0 =>
        rw [hn] at q
        obtain ⟨u, B1, k1, k2, k3, k4⟩ := h2.part hn
        obtain ⟨w, B0, m1, m2, m3, m4⟩ := CellOk.part (p := p) k2 q
        refine ⟨w, B0, ⟨a, vs, u, rfl, h1, k1, m1⟩, m2, fun b hb => List.mem_cons_of_mem _ (k3 b (m3 b hb)), fun H' S' d D hd sm hk hD => ?_⟩
        obtain ⟨B1', n1, n2, _⟩ := m4 H' S' d D hd sm (fun b hb z => hk b (List.mem_cons_of_mem _ (k3 b hb)) z) fun b hb => (hD b hb).imp id fun z w => z (List.mem_cons_of_mem _ (k3 b w))
        have hB1 : ∀ b ∈ B1', b ∈ B1 ∨ b ∉ a :: Bs := fun b hb => by
          rcases n2 b hb with z | z
          · exact (hD b z).imp (m3 b) id
          · exact .inl z.1
        obtain ⟨Bs', o1, o2⟩ := k4 H' S' _ B1' n1 sm (fun b hb z => hk b (List.mem_cons_of_mem _ hb) fun y => z (m3 b y)) fun b hb => (hB1 b hb).imp id fun z w => z (List.mem_cons_of_mem _ w)
        have ha : a ∉ B0 := fun z => h3 (k3 a (m3 a z))
        refine ⟨a :: Bs', ?_, fun b hb => ?_, fun _ a' r' e => by cases e; exact ⟨_, rfl⟩⟩
        · unfold setC
          rw [hn]
          unfold CellOk
          refine ⟨a, vs, Bs', rfl, (hk a List.mem_cons_self ha).trans h1, o1, fun z => ?_, rfl⟩
          rcases o2 a z with z | z
          · rcases hB1 a z with z | z
            · exact h3 (k3 a z)
            · exact z List.mem_cons_self
          · exact h3 z.1
        · rcases List.mem_cons.mp hb with rfl | hb
          · exact .inr ⟨List.mem_cons_self, ha⟩
          · rcases o2 b hb with z | z
            · rcases n2 b z with y | y
              · exact .inl y
              · exact .inr ⟨List.mem_cons_of_mem _ (k3 b y.1), y.2⟩
            · exact .inr ⟨List.mem_cons_of_mem _ z.1, fun y => z.2 (m3 b y)⟩
    | _ => cases q
  | .at f :: p, c, d0, v, B, h, q => by
    cases c with
    | obj C cs =>
      unfold CellOk at h
      obtain ⟨a, cc, dx, vs, Bs, rfl, h0, h1, h2, h3, rfl⟩ := h
      unfold getC at q
      cases hn : cs.lookup f with
      | none => rw [hn] at q; cases q
      | some c0 =>
        rw [hn] at q
        obtain ⟨u, B1, k1, k2, k3, k4⟩ := h2.part hn
        obtain ⟨w, B0, m1, m2, m3, m4⟩ := CellOk.part (p := p) k2 q
        refine ⟨w, B0, ⟨a, cc, dx, vs, u, rfl, h1, k1, m1⟩, m2, fun b hb => List.mem_cons_of_mem _ (k3 b (m3 b hb)), fun H' S' d D hd sm hk hD => ?_⟩
        obtain ⟨B1', n1, n2, _⟩ := m4 H' S' d D hd sm (fun b hb z => hk b (List.mem_cons_of_mem _ (k3 b hb)) z) fun b hb => (hD b hb).imp id fun z w => z (List.mem_cons_of_mem _ (k3 b w))
        have hB1 : ∀ b ∈ B1', b ∈ B1 ∨ b ∉ a :: Bs := fun b hb => by
          rcases n2 b hb with z | z
          · exact (hD b z).imp (m3 b) id
          · exact .inl z.1
        obtain ⟨Bs', o1, o2⟩ := k4 H' S' _ B1' n1 sm (fun b hb z => hk b (List.mem_cons_of_mem _ hb) fun y => z (m3 b y)) fun b hb => (hB1 b hb).imp id fun z w => z (List.mem_cons_of_mem _ w)
        have ha : a ∉ B0 := fun z => h3 (k3 a (m3 a z))
        refine ⟨a :: Bs', ?_, fun b hb => ?_, fun _ a' r' e => by cases e; exact ⟨_, rfl⟩⟩
        · unfold setC
          rw [hn]
          unfold CellOk
          refine ⟨a, cc, dx, vs, Bs', rfl, h0, (hk a List.mem_cons_self ha).trans h1, o1, fun z => ?_, rfl⟩
          rcases o2 a z with z | z
          · rcases hB1 a z with z | z
            · exact h3 (k3 a z)
            · exact z List.mem_cons_self
          · exact h3 z.1
        · rcases List.mem_cons.mp hb with rfl | hb
          · exact .inr ⟨List.mem_cons_self, ha⟩
          · rcases o2 b hb with z | z
            · rcases n2 b z with y | y
              · exact .inl y
              · exact .inr ⟨List.mem_cons_of_mem _ (k3 b y.1), y.2⟩
            · exact .inr ⟨List.mem_cons_of_mem _ z.1, fun y => z.2 (m3 b y)⟩
    | _ => cases q
/-- a way leads to one end -/
theorem AtP.inj : ∀ {p : List PSt} {v w w' : V}, AtP H v p w → AtP H v p w' → w = w'
  | [], v, w, w', h, h' => (show v = w from h).symm.trans h'
  | .ix n :: p, v, w, w', ⟨a, vs, u, e, h1, h2, h3⟩, ⟨a', vs', u', e', h1', h2', h3'⟩ => by
    subst e; cases e'
    rw [h1] at h1'; cases h1'
    rw [h2] at h2'; cases h2'
    exact AtP.inj h3 h3'
  | .at f :: p, v, w, w', ⟨a, c, dx, vs, u, e, h1, h2, h3⟩, ⟨a', c', dx', vs', u', e', h1', h2', h3'⟩ => by
    subst e; cases e'
    rw [h1] at h1'; cases h1'
    rw [h2] at h2'; cases h2'
    exact AtP.inj h3 h3'
theorem Rel.there (R : Rel K mg σ env H S As) {b : Addr} (h : Own As b) : H b ≠ none := by
  obtain ⟨i, hi⟩ := h
  cases e : get env i with
  | none => rw [R.emp i e] at hi; cases hi
  | some c =>
    obtain ⟨v, _, hc⟩ := R.cell i c e
    exact CellOk.there _ _ _ hc b hi
theorem Rel.thereN (R : Rel K mg σ env H S As) {b : Addr} (h : Own As b) : ¬ Nw (H b) := by
  obtain ⟨i, hi⟩ := h
  cases e : get env i with
  | none => rw [R.emp i e] at hi; cases hi
  | some c =>
    obtain ⟨v, _, hc⟩ := R.cell i c e
    exact CellOk.thereN _ _ _ hc b hi
theorem Stp.refl : Stp H S As H S As := ⟨Same.refl _, fun _ _ h _ => h, fun _ h => .inl h, fun _ h => .inl h, rfl⟩
theorem Stp.trans (a : Stp H₀ S₀ As₀ H₁ S₁ As₁) (b : Stp H₁ S₁ As₁ H S As) : Stp H₀ S₀ As₀ H S As where
  same := a.same.trans b.same
  root := b.root.trans a.root
  fr := fun c o h n => b.fr c o (a.fr c o h n) fun z => (a.own c z).elim n fun q => by rw [q] at h; cases h
  own := fun c h => (b.own c h).elim (a.own c) fun q => by
    cases e : H₀ c with
    | none => exact .inr rfl
    | some o =>
      by_cases n : Own As₀ c
      · exact .inl n
      · rw [a.fr c o e n] at q; cases q
  new := fun c h => (b.new c h).elim (a.new c) fun q => q.elim (fun z => .inr ((a.own c z).imp id .inl)) fun q => by
    cases e : H₀ c with
    | none => exact .inr (.inr (.inl rfl))
    | some o =>
      by_cases n : Own As₀ c
      · exact .inr (.inl n)
      · have e2 := a.fr c o e n
        rcases q with q | ⟨vs, q⟩
        · rw [e2] at q; cases q
        · rw [e2] at q; cases q; exact .inr (.inr (.inr ⟨vs, rfl⟩))
/-- objects that are nobody's stay -/
theorem Stp.keep {B : List Addr} (s : Stp H S As H' S' As') (hn : ∀ b ∈ B, ¬ Nw (H b)) (h : ∀ b ∈ B, ¬ Own As b ∧ S b = none) : (∀ b ∈ B, H' b = H b) ∧ ∀ b ∈ B, ¬ Own As' b ∧ S' b = none := by
  refine ⟨fun b hb => ?_, fun b hb => ⟨fun z => ?_, ?_⟩⟩
  · cases e : H b with
    | none => exact absurd (.inl e) (hn b hb)
    | some o => exact s.fr b o e (h b hb).1
  · rcases s.own b z with z | z
    · exact (h b hb).1 z
    · exact hn b hb (.inl z)
  · cases e : S' b with
    | none => rfl
    | some o =>
      rcases s.new b (by rw [e]; simp) with z | z | z
      · exact absurd (h b hb).2 z
      · exact absurd z (h b hb).1
      · exact absurd z (hn b hb)
/-- a pending value stands -/
theorem RvOk.stp {v : V} {rv : RV} {B : List Addr} (h : RvOk K mg σ H S As v rv B) (s : Stp H S As H' S' As') : RvOk K mg σ H' S' As' v rv B := by
  cases rv with
  | val p => exact ⟨Rp.mono s.same _ _ h.1, h.2⟩
  | loc j => exact h
  | new c =>
    obtain ⟨h1, h2⟩ := h
    obtain ⟨k1, k2⟩ := s.keep (CellOk.thereN _ _ _ h1) h2
    exact ⟨CellOk.fr s.same _ _ _ h1 k1, k2⟩
  | brw j p c =>
    obtain ⟨v0, d, h0, h1, hg, h2, h3, h4⟩ := h
    obtain ⟨k1, k2⟩ := s.keep (CellOk.thereN _ _ _ h1) h3
    exact ⟨v0, d, h0, CellOk.fr s.same _ _ _ h1 k1, hg, AtP.fr h1 hg h2 k1, k2, fun z a r e => by rw [s.root]; exact h4 z a r e⟩
theorem get_set_same {env : Env} {i : Nat} {c : Option Cell} (h : i < env.length) : get (env.set i c) i = c := by
  unfold get; rw [List.getElem?_set_self h]; rfl
theorem get_set_ne {env : Env} {i j : Nat} {c : Option Cell} (h : i ≠ j) : get (env.set i c) j = get env j := by
  unfold get; rw [List.getElem?_set_ne h]
theorem get_lt {env : Env} {i : Nat} {c : Cell} (h : get env i = some c) : i < env.length := by
  unfold get at h
  cases e : env[i]? with
  | none => rw [e] at h; cases h
  | some x => exact (List.getElem?_eq_some_iff.mp e).1
def updF (As : Fp) (i : Nat) (B : List Addr) : Fp := ⟨fun j => if j = i then B else As j, As.root⟩
theorem updF_same {i : Nat} {B : List Addr} : updF As i B i = B := if_pos rfl
theorem updF_ne {i j : Nat} {B : List Addr} (h : j ≠ i) : updF As i B j = As j := if_neg h
/-- a slot gets another value, the heap changes at that slot's objects and new ones alone -/
theorem Rel.chg (R : Rel K mg σ env H S As) {i : Nat} {v : V} {c : Option Cell} {B : List Addr} (hi : i < env.length) (sub : Same S' H') (hs : Same S S') (hk : ∀ j b, j ≠ i → b ∈ As j → H' b = H b)
    (hS : ∀ j b, j ≠ i → b ∈ As j → S' b = none) (hc : match c with | some c => CellOk K mg H' S' v c B | none => B = []) (hB : ∀ b ∈ B, (∀ j, j ≠ i → b ∉ As j) ∧ S' b = none) (ha : i = 0 → ∀ a r, B = a :: r → As.root = some a) :
    Rel K mg (σ.set i (some v)) (env.set i c) H' S' (updF As i B) := by
  refine ⟨sub, by simp [R.len], fun j c' e => ?_, fun j e => ?_, fun j k a n h1 h2 => ?_, fun a h => ?_, fun a r h => ?_⟩
  · by_cases hj : j = i
    · subst hj
      rw [get_set_same hi] at e
      subst e
      exact ⟨v, List.getElem?_set_self (by rw [R.len]; exact hi), by rw [updF_same]; exact hc⟩
    · rw [get_set_ne (Ne.symm hj)] at e
      obtain ⟨w, e1, e2⟩ := R.cell j c' e
      exact ⟨w, by rw [List.getElem?_set_ne (Ne.symm hj)]; exact e1, by rw [updF_ne hj]; exact CellOk.fr hs _ _ _ e2 (fun b hb => hk j b hj hb)⟩
  · by_cases hj : j = i
    · subst hj
      rw [get_set_same hi] at e
      subst e
      rw [updF_same]
      exact hc
    · rw [get_set_ne (Ne.symm hj)] at e
      rw [updF_ne hj]; exact R.emp j e
  · by_cases hj : j = i
    · subst hj
      rw [updF_same] at h1
      rw [updF_ne (Ne.symm n)] at h2
      exact (hB a h1).1 k (Ne.symm n) h2
    · rw [updF_ne hj] at h1
      by_cases hk' : k = i
      · subst hk'
        rw [updF_same] at h2
        exact (hB a h2).1 j hj h1
      · rw [updF_ne hk'] at h2
        exact R.disj j k a n h1 h2
  · obtain ⟨j, hj⟩ := h
    by_cases e : j = i
    · subst e
      rw [updF_same] at hj
      exact (hB a hj).2
    · rw [updF_ne e] at hj
      exact hS j a e hj
  · by_cases e : i = 0
    · subst e
      rw [updF_same] at h
      exact ha rfl a r h
    · rw [updF_ne (Ne.symm e)] at h
      exact R.anc a r h
/-- the heaps grow, nothing of the slots changes -/
theorem Rel.grow (R : Rel K mg σ env H S As) (sub : Same S' H') (hs : Same S S') (hk : ∀ b, Own As b → H' b = H b) (hS : ∀ b, Own As b → S' b = none) : Rel K mg σ env H' S' As :=
  ⟨sub, R.len, fun i c e => let ⟨v, e1, e2⟩ := R.cell i c e; ⟨v, e1, CellOk.fr hs _ _ _ e2 (fun b hb => hk b ⟨i, hb⟩)⟩, R.emp, R.disj, fun a h => hS a h, R.anc⟩
theorem same_upd {p : Addr} {o : HO} (h : H p = none) : Same H (upd H p o) := fun b x e => by
  rw [upd_ne (ne_of_none e h)]; exact e
theorem Same.free' (sub : Same S H) {p : Addr} (h : H p = none) : S p = none := sub.free h
/-- a new plain thing -/
theorem Rel.lay (R : Rel K mg σ env H S As) {p : Addr} {o : HO} (h : H p = none) : Rel K mg σ env (upd H p o) (upd S p o) As ∧ Stp H S As (upd H p o) (upd S p o) As := by
  have hS : S p = none := R.sub.free h
  have np : ∀ b, Own As b → b ≠ p := fun b hb e => R.there hb (by rw [e]; exact h)
  refine ⟨R.grow (fun b x e => ?_) (same_upd hS) (fun b hb => upd_ne (np b hb)) fun b hb => ?_, same_upd hS, fun b x e _ => (same_upd h) b x e, fun b hb => .inl hb, fun b hb => ?_, rfl⟩
  · by_cases q : b = p
    · subst q; rw [upd_same] at e ⊢; exact e
    · rw [upd_ne q] at e ⊢; exact R.sub b x e
  · rw [upd_ne (np b hb)]; exact R.free b hb
  · by_cases q : b = p
    · subst q; exact .inr (.inr (.inl h))
    · rw [upd_ne q] at hb; exact .inl hb
/-- a new thing that is owned by nobody yet -/
theorem Rel.layN (R : Rel K mg σ env H S As) {p : Addr} {o : HO} (h : H p = none) : Rel K mg σ env (upd H p o) S As ∧ Stp H S As (upd H p o) S As := by
  have np : ∀ b, Own As b → b ≠ p := fun b hb e => R.there hb (by rw [e]; exact h)
  exact ⟨R.grow (R.sub.trans (same_upd h)) (Same.refl _) (fun b hb => upd_ne (np b hb)) fun b hb => R.free b hb, Same.refl _, fun b x e _ => (same_upd h) b x e, fun b hb => .inl hb, fun b hb => .inl hb, rfl⟩
/-- the cell that a pending value means -/
theorem Rel.vw (R : Rel K mg σ env H S As) {v : V} {rv : RV} {B : List Addr} {c : Cell} (h : RvOk K mg σ H S As v rv B) (e : vwC env rv = some c) : ∃ D, CellOk K mg H S v c D := by
  cases rv with
  | val q => cases e; exact ⟨[], by unfold CellOk; exact ⟨h.1, rfl⟩⟩
  | loc j =>
    obtain ⟨w, e1, e2⟩ := R.cell j _ e
    have : w = v := by simpa using e1.symm.trans h.1
    subst this
    exact ⟨_, e2⟩
  | new d => cases e; exact ⟨B, h.1⟩
  | brw j p d =>
    obtain ⟨v0, d0, h0, h1, hg, h2, h3, h4⟩ := h
    obtain ⟨w, B0, k1, k2, k3, k4⟩ := h1.part e
    have : w = v := AtP.inj k1 h2
    subst this
    exact ⟨B0, k2⟩
theorem Rel.rd (R : Rel K mg σ env H S As) {v : V} {rv : RV} {B : List Addr} {p : PV} (h : RvOk K mg σ H S As v rv B) (e : rd env rv = some p) : Rp1 K mg H S v p := by
  unfold PL.rd at e
  split at e
  · rename_i c hc
    split at e
    · rename_i hf
      cases e
      obtain ⟨D, hD⟩ := R.vw h hc
      exact hD.rp1 R.sub hf
    · cases e
  · cases e
theorem Rel.rdH (R : Rel K mg σ env H S As) {v : V} {rv : RV} {B : List Addr} {p : PV} (h : RvOk K mg σ H S As v rv B) (e : rdH env rv = some p) : Rp K mg H v p := by
  unfold PL.rdH at e
  split at e
  · rename_i c hc
    cases e
    obtain ⟨D, hD⟩ := R.vw h hc
    exact hD.rpH R.sub
  · cases e
end
end PL
set_option Elab.async false
set_option linter.all false
set_option maxRecDepth 100000
set_option maxHeartbeats 1000000
namespace PL
open PySem PySem.Spec PyProof.Rows L2
section
variable {K : PySem.W.Frag} {mg : Str → Option Value} {H H' S S' H₀ S₀ H₁ S₁ : Hp} {As As' As₀ As₁ : Fp} {σ : SlotV} {env : Env}
theorem Stp.fresh (s : Stp H S As H' S' As') {b : Addr} (h : H' b = none ∨ Own As' b) : H b = none ∨ Own As b := by
  rcases h with h | h
  · cases e : H b with
    | none => exact .inl rfl
    | some o =>
      by_cases n : Own As b
      · exact .inr n
      · rw [s.fr b o e n] at h; cases h
  · exact (s.own b h).symm
/-! ### freezing -/
open Classical in
noncomputable def frz (H S : Hp) (T : List Addr) : Hp := fun b => if b ∈ T then H b else S b
theorem frz_in {T : List Addr} {b : Addr} (h : b ∈ T) : frz H S T b = H b := if_pos h
theorem frz_out {T : List Addr} {b : Addr} (h : b ∉ T) : frz H S T b = S b := if_neg h
theorem same_frz {T : List Addr} (h : ∀ b ∈ T, S b = none) : Same S (frz H S T) := fun b o e => by
  rw [frz_out fun z => by rw [h b z] at e; cases e]; exact e
theorem frz_same {T : List Addr} (h : Same S H) : Same (frz H S T) H := fun b o e => by
  by_cases q : b ∈ T
  · rw [frz_in q] at e; exact e
  · rw [frz_out q] at e; exact h b o e
theorem CellOk.fz {v : V} {c : Cell} {B : List Addr} (h : CellOk K mg H S v c B) (hB : ∀ b ∈ B, S b = none) : Rp K mg (frz H S B) v c.pv := CellOk.rpO (same_frz hB) c v B h fun b hb => frz_in hb
theorem set_self {σ : SlotV} {j : Nat} {v : V} (h : σ[j]? = some (some v)) : σ.set j (some v) = σ := by
  apply List.ext_getElem?
  intro k
  by_cases e : k = j
  · subst e
    rw [List.getElem?_set_self (List.getElem?_eq_some_iff.mp h).1, h]
  · rw [List.getElem?_set_ne (Ne.symm e)]
/-- a slot's own thing is frozen -/
theorem Rel.freeze (R : Rel K mg σ env H S As) {j : Nat} {c : Cell} (h : get env j = some c) : ∃ v, σ[j]? = some (some v) ∧ Rp K mg (frz H S (As j)) v c.pv ∧
    Rel K mg σ (env.set j (some (.fz c.pv))) H (frz H S (As j)) (updF As j []) ∧ Stp H S As H (frz H S (As j)) (updF As j []) := by
  obtain ⟨v, e, hc⟩ := R.cell j c h
  have hf : ∀ b ∈ As j, S b = none := fun b hb => R.free b ⟨j, hb⟩
  have hp := hc.fz hf
  refine ⟨v, e, hp, ?_, ⟨same_frz hf, fun b o q _ => q, fun b hb => ?_, fun b hb => ?_, rfl⟩⟩
  · have := R.chg (i := j) (v := v) (c := some (.fz c.pv)) (B := []) (H' := H) (S' := frz H S (As j)) (get_lt h) (frz_same R.sub) (same_frz hf) (fun _ _ _ _ => rfl)
      (fun k b n hb => by rw [frz_out (R.disj k j b n hb)]; exact R.free b ⟨k, hb⟩) (by unfold CellOk; exact ⟨hp, rfl⟩) (fun b hb => by cases hb) (fun _ a r z => by cases z)
    rw [set_self e] at this
    exact this
  · obtain ⟨k, hk⟩ := hb
    by_cases q : k = j
    · subst q; rw [updF_same] at hk; cases hk
    · rw [updF_ne q] at hk; exact .inl ⟨k, hk⟩
  · by_cases q : b ∈ As j
    · exact .inr (.inl ⟨j, q⟩)
    · rw [frz_out q] at hb; exact .inl hb
/-- a pending thing is frozen -/
theorem Rel.freezeT (R : Rel K mg σ env H S As) {v : V} {c : Cell} {B : List Addr} (h : RvOk K mg σ H S As v (.new c) B) (st : Stp H₀ S₀ As₀ H S As) (hB : ∀ b ∈ B, H₀ b = none ∨ Own As₀ b) :
    Rp K mg (frz H S B) v c.pv ∧ Rel K mg σ env H (frz H S B) As ∧ Stp H₀ S₀ As₀ H (frz H S B) As ∧ Same S (frz H S B) := by
  obtain ⟨h1, h2⟩ := h
  have hf : ∀ b ∈ B, S b = none := fun b hb => (h2 b hb).2
  refine ⟨h1.fz hf, R.grow (frz_same R.sub) (same_frz hf) (fun _ _ => rfl) (fun b hb => ?_), ⟨st.same.trans (same_frz hf), st.fr, st.own, fun b hb => ?_, st.root⟩, same_frz hf⟩
  · rw [frz_out fun z => (h2 b z).1 hb]; exact R.free b hb
  · by_cases q : b ∈ B
    · exact .inr ((hB b q).symm.imp id .inl)
    · rw [frz_out q] at hb; exact st.new b hb
theorem Rel.slot (R : Rel K mg σ env H S As) {j : Nat} {v : V} (h : σ[j]? = some (some v)) : j < env.length := by
  rw [← R.len]; exact (List.getElem?_eq_some_iff.mp h).1
/-- a slot takes a pending cell (back) -/
theorem Rel.giveIn (R : Rel K mg σ env H S As) {j : Nat} {v0 : V} {c : Cell} {B : List Addr} {H' S' : Hp} (st : Stp H₀ S₀ As₀ H S As) (hσ : σ[j]? = some (some v0)) (sub : Same S' H') (hs : Same S S') (hc : CellOk K mg H' S' v0 c B)
    (hk : ∀ b, Own As b → H' b = H b ∧ S' b = none) (hB : ∀ b ∈ B, ¬ Own As b ∧ S' b = none) (hN : ∀ b ∈ B, H₀ b = none ∨ Own As₀ b) (ha : j = 0 → ∀ a r, B = a :: r → As.root = some a)
    (fr : ∀ b o, H₀ b = some o → ¬ Own As₀ b → H' b = some o) (new : ∀ b, S' b ≠ none → S₀ b ≠ none ∨ Own As₀ b ∨ Nw (H₀ b)) :
    Rel K mg σ (env.set j (some c)) H' S' (updF As j B) ∧ Stp H₀ S₀ As₀ H' S' (updF As j B) := by
  have R2 := R.chg (i := j) (v := v0) (c := some c) (B := B) (H' := H') (S' := S') (R.slot hσ) sub hs (fun k b _ hb => (hk b ⟨k, hb⟩).1) (fun k b _ hb => (hk b ⟨k, hb⟩).2) hc (fun b hb => ⟨fun k _ z => (hB b hb).1 ⟨k, z⟩, (hB b hb).2⟩) ha
  rw [set_self hσ] at R2
  refine ⟨R2, st.same.trans hs, fr, fun b ⟨k, hk⟩ => ?_, new, st.root⟩
  by_cases q : k = j
  · subst q; rw [updF_same] at hk; exact (hN b hk).symm
  · rw [updF_ne q] at hk; exact st.own b ⟨k, hk⟩
/-- what was borrowed goes back -/
theorem unb_ok (R : Rel K mg σ env H S As) {v : V} {rv : RV} {B : List Addr} (h : RvOk K mg σ H S As v rv B) (st : Stp H₀ S₀ As₀ H S As) (hB : ∀ b ∈ B, H₀ b = none ∨ Own As₀ b) :
    ∃ As', Rel K mg σ (unb rv env) H S As' ∧ Stp H₀ S₀ As₀ H S As' ∧ ∀ b, Own As' b → Own As b ∨ b ∈ B := by
  cases rv with
  | val q => exact ⟨As, R, st, fun b => .inl⟩
  | loc j => exact ⟨As, R, st, fun b => .inl⟩
  | new c => exact ⟨As, R, st, fun b => .inl⟩
  | brw j p c =>
    obtain ⟨v0, d, h0, h1, hg, h2, h3, h4⟩ := h
    obtain ⟨R2, st2⟩ := R.giveIn (H' := H) (S' := S) st h0 R.sub (Same.refl _) h1 (fun b hb => ⟨rfl, R.free b hb⟩) h3 hB h4 st.fr st.new
    refine ⟨_, R2, st2, fun b ⟨k, hk⟩ => ?_⟩
    by_cases q : k = j
    · subst q; rw [updF_same] at hk; exact .inr hk
    · rw [updF_ne q] at hk; exact .inl ⟨k, hk⟩
theorem take_ok (R : Rel K mg σ env H S As) {v : V} {rv : RV} {B : List Addr} {p : PV} {env' : Env} (h : RvOk K mg σ H S As v rv B) (st : Stp H₀ S₀ As₀ H S As) (hB : ∀ b ∈ B, H₀ b = none ∨ Own As₀ b) (e : take rv env = some (p, env')) :
    ∃ S' As', Rel K mg σ env' H S' As' ∧ Stp H₀ S₀ As₀ H S' As' ∧ Rp K mg S' v p ∧ Same S S' ∧ (∀ b, Own As' b → Own As b ∨ b ∈ B) ∧ ∀ b, S' b ≠ none → S b ≠ none ∨ Own As b ∨ b ∈ B := by
  cases rv with
  | val q =>
    simp only [take, Option.some.injEq, Prod.mk.injEq] at e
    obtain ⟨rfl, rfl⟩ := e
    exact ⟨S, As, R, st, h.1, Same.refl _, fun b => .inl, fun b => .inl⟩
  | loc j =>
    unfold take at e
    simp only at e
    split at e
    · rename_i c hc
      simp only [Option.some.injEq, Prod.mk.injEq] at e
      obtain ⟨rfl, rfl⟩ := e
      obtain ⟨w, e1, hp, R', st'⟩ := R.freeze hc
      have : w = v := by simpa using e1.symm.trans h.1
      subst this
      refine ⟨_, _, R', st.trans st', hp, st'.same, fun b ⟨k, hk⟩ => .inl ?_, fun b hb => ?_⟩
      · by_cases q : k = j
        · subst q; rw [updF_same] at hk; cases hk
        · rw [updF_ne q] at hk; exact ⟨k, hk⟩
      · by_cases q : b ∈ As j
        · exact .inr (.inl ⟨j, q⟩)
        · rw [frz_out q] at hb; exact .inl hb
    · cases e
  | new c =>
    simp only [take, Option.some.injEq, Prod.mk.injEq] at e
    obtain ⟨rfl, rfl⟩ := e
    obtain ⟨hp, R', st', sm⟩ := R.freezeT h st hB
    refine ⟨_, _, R', st', hp, sm, fun b => .inl, fun b hb => ?_⟩
    by_cases q : b ∈ B
    · exact .inr (.inr q)
    · rw [frz_out q] at hb; exact .inl hb
  | brw j pp c =>
    unfold take at e
    simp only at e
    split at e
    · rename_i d hd
      simp only [Option.some.injEq, Prod.mk.injEq] at e
      obtain ⟨rfl, rfl⟩ := e
      obtain ⟨v0, d', h0, h1, hg, h2, h3, h4⟩ := h
      obtain ⟨w, B0, k1, k2, k3, k4⟩ := h1.part hd
      have : w = v := AtP.inj k1 h2
      subst this
      have hf : ∀ b ∈ B0, S b = none := fun b hb => (h3 b (k3 b hb)).2
      have hp := k2.fz hf
      obtain ⟨B', m1, m2, m3⟩ := k4 H (frz H S B0) (.fz d.pv) [] (by unfold CellOk; exact ⟨hp, rfl⟩) (same_frz hf) (fun _ _ _ => rfl) (fun b hb => by cases hb)
      have hB' : ∀ b ∈ B', b ∈ B ∧ b ∉ B0 := fun b hb => (m2 b hb).elim (fun z => by cases z) id
      obtain ⟨R2, st2⟩ := R.giveIn (H' := H) (S' := frz H S B0) st h0 (frz_same R.sub) (same_frz hf) m1 (fun b hb => ⟨rfl, by
          rw [frz_out fun z => (h3 b (k3 b z)).1 hb]; exact R.free b hb⟩) (fun b hb => ⟨(h3 b (hB' b hb).1).1, by rw [frz_out (hB' b hb).2]; exact (h3 b (hB' b hb).1).2⟩) (fun b hb => hB b (hB' b hb).1)
        (fun z a r e => by
          cases B with
          | nil => exact absurd (hB' a (by rw [e]; exact List.mem_cons_self)).1 (by simp)
          | cons a' r' =>
            have h5 := h4 z a' r' rfl
            by_cases hz : pp = []
            · subst hz
              unfold getC at hd
              cases hd
              exact absurd e (by
                unfold setC at m1
                unfold CellOk at m1
                rw [m1.2]; simp)
            · obtain ⟨r2, e2⟩ := m3 hz a' r' rfl
              rw [e] at e2
              cases e2
              exact h5) st.fr (fun b hb => by
          by_cases q : b ∈ B0
          · exact .inr ((hB b (k3 b q)).symm.imp id .inl)
          · rw [frz_out q] at hb; exact st.new b hb)
      refine ⟨_, _, R2, st2, hp, same_frz hf, fun b ⟨k, hk⟩ => ?_, fun b hb => ?_⟩
      · by_cases q : k = j
        · subst q; rw [updF_same] at hk; exact .inr (hB' b hk).1
        · rw [updF_ne q] at hk; exact .inl ⟨k, hk⟩
      · by_cases q : b ∈ B0
        · exact .inr (.inr (k3 b q))
        · rw [frz_out q] at hb; exact .inl hb
    · cases e

/-! ### results of operations -/
/-- all tuples are frozen -/
def ext (S H : Hp) : Hp := fun b => match S b with
  | some o => some o
  | none => match H b with
    | some (.tup vs) => some (.tup vs)
    | _ => none
theorem ext_some {b : Addr} {o : HO} (h : S b = some o) : ext S H b = some o := by unfold ext; rw [h]
theorem ext_same : Same S (ext S H) := fun b o h => ext_some h
theorem ext_tup {b : Addr} {vs : List V} (sub : Same S H) (h : H b = some (.tup vs)) : ext S H b = some (.tup vs) := by
  cases e : S b with
  | some o =>
    rw [ext_some e]
    have := sub b o e
    rw [h] at this
    exact this.symm
  | none => unfold ext; rw [e, h]
theorem ext_of {b : Addr} {o : HO} (h : ext S H b = some o) : S b = some o ∨ (S b = none ∧ ∃ vs, o = .tup vs ∧ H b = some (.tup vs)) := by
  unfold ext at h
  cases e : S b with
  | some o' => rw [e] at h; exact .inl h
  | none =>
    rw [e] at h
    dsimp only at h
    split at h
    · rename_i vs q
      cases h
      exact .inr ⟨rfl, vs, rfl, q⟩
    · cases h
theorem Rel.ext (R : Rel K mg σ env H S As) : Rel K mg σ env H (PL.ext S H) As ∧ Stp H S As H (PL.ext S H) As := by
  refine ⟨R.grow (fun b o e => ?_) ext_same (fun _ _ => rfl) fun b hb => ?_, ext_same, fun b o e _ => e, fun b hb => .inl hb, fun b hb => ?_, rfl⟩
  · rcases ext_of e with e | ⟨_, vs, rfl, e2⟩
    · exact R.sub b o e
    · exact e2
  · cases e : PL.ext S H b with
    | none => rfl
    | some o =>
      rcases ext_of e with e | ⟨_, vs, rfl, e2⟩
      · rw [R.free b hb] at e; cases e
      · exact absurd (.inr ⟨vs, e2⟩) (R.thereN hb)
  · cases e : PL.ext S H b with
    | none => exact absurd e hb
    | some o =>
      rcases ext_of e with e1 | ⟨_, vs, rfl, e2⟩
      · exact .inl (by rw [e1]; simp)
      · exact .inr (.inr (.inr ⟨vs, e2⟩))
def VRok (K : PySem.W.Frag) (mg : Str → Option Value) (H S : Hp) (vr : VR) (z : V) (H' : Hp) : Prop := match vr with
  | .sc p => H' = H ∧ Rp K mg S z p
  | .tup ps => (H' = H ∧ Rp K mg S z (.tup ps)) ∨ ∃ a vs, z = .ref a ∧ H a = none ∧ H' = upd H a (.tup vs) ∧ Rps K mg S vs ps
  | .lst ps => ∃ a vs, z = .ref a ∧ H a = none ∧ H' = upd H a (.lst vs) ∧ Rps K mg S vs ps
  | .srt ps => ∃ a vs, z = .ref a ∧ H a = none ∧ H' = upd H a (.lst vs) ∧ Rps K mg (ext S H) vs ps
theorem Rp.int (i : Int) : Rp K mg S (.int i) (.int i) := by unfold Rp; rfl
theorem Rp.bl (b : Bool) : Rp K mg S (.bl b) (.bl b) := by unfold Rp; rfl
theorem Rp.non : Rp K mg S .non .non := by unfold Rp; rfl
theorem Rp.tup {a : Addr} {vs : List V} {ps : List PV} (h : S a = some (.tup vs)) (r : Rps K mg S vs ps) : Rp K mg S (.ref a) (.tup ps) := by unfold Rp; exact ⟨a, vs, rfl, h, r⟩
theorem VR_fin (R : Rel K mg σ env H S As) {vr : VR} {z : V} (h : VRok K mg H S vr z H') : ∃ S' B, Rel K mg σ env H' S' As ∧ Stp H S As H' S' As ∧ RvOk K mg σ H' S' As z (mkV vr) B ∧ ∀ b ∈ B, H b = none := by
  cases vr with
  | sc p =>
    obtain ⟨rfl, h⟩ := h
    exact ⟨S, [], R, Stp.refl, ⟨h, rfl⟩, fun b hb => by cases hb⟩
  | tup ps =>
    rcases h with ⟨rfl, h⟩ | ⟨a, vs, rfl, n, rfl, r⟩
    · exact ⟨S, [], R, Stp.refl, ⟨h, rfl⟩, fun b hb => by cases hb⟩
    · obtain ⟨R', st⟩ := R.lay (o := .tup vs) n
      exact ⟨_, [], R', st, ⟨Rp.tup upd_same (Rps.mono st.same _ _ r), rfl⟩, fun b hb => by cases hb⟩
  | lst ps =>
    obtain ⟨a, vs, rfl, n, rfl, r⟩ := h
    obtain ⟨R', st⟩ := R.layN (o := .lst vs) n
    refine ⟨S, [a], R', st, ⟨by unfold CellOk; exact ⟨a, vs, rfl, upd_same, r, rfl⟩, fun b hb => ?_⟩, fun b hb => ?_⟩
    · obtain rfl : b = a := by simpa using hb
      exact ⟨fun z => R.there z n, R.sub.free n⟩
    · obtain rfl : b = a := by simpa using hb
      exact n
  | srt ps =>
    obtain ⟨a, vs, rfl, n, rfl, r⟩ := h
    obtain ⟨R0, st0⟩ := R.ext
    obtain ⟨R', st⟩ := R0.layN (o := .lst vs) n
    refine ⟨_, [a], R', st0.trans st, ⟨by unfold CellOk; exact ⟨a, vs, rfl, upd_same, r, rfl⟩, fun b hb => ?_⟩, fun b hb => ?_⟩
    · obtain rfl : b = a := by simpa using hb
      exact ⟨fun z => R.there z n, R0.sub.free n⟩
    · obtain rfl : b = a := by simpa using hb
      exact n

/-! ### what is wanted of a run -/
def ExOk (K : PySem.W.Frag) (mg : Str → Option Value) (H S : Hp) (C : Str) (fs : List (Str × PV)) (cls : Value) (d : Option Addr) : Prop :=
  (∃ c, mg C = some (.ref c) ∧ cls = .ref c) ∧ match fs with
    | [] => d = none
    | fs => ∃ dx gs, d = some dx ∧ H dx = some (.xd gs) ∧ Rpf K mg S gs fs
def Post {α : Type} (K : PySem.W.Frag) (mg : Str → Option Value) (W : WX) (H S : Hp) (As : Fp) (r : Res (α × Env)) (k : α → Env → Prop) : Prop := match r with
  | .ok (a, env) => k a env
  | .exc C fs env => ∀ σ H' S' As' cls d, Stp H S As H' S' As' → Rel K mg σ env H' S' As' → ExOk K mg H' S' C fs cls d → W cls d σ H'
  | .stuck => False
def KE (K : PySem.W.Frag) (mg : Str → Option Value) (σ : SlotV) (H S : Hp) (As : Fp) (Q : VK) (rv : RV) (env : Env) : Prop :=
  ∀ v H' S' As' B, Stp H S As H' S' As' → Rel K mg σ env H' S' As' → RvOk K mg σ H' S' As' v rv B → (∀ b ∈ B, H b = none ∨ Own As b) → Q v H'
def KT (K : PySem.W.Frag) (mg : Str → Option Value) (σ : SlotV) (H S : Hp) (As : Fp) (Q : Bool → Hp → Prop) (b : Bool) (env : Env) : Prop :=
  ∀ H' S' As', Stp H S As H' S' As' → Rel K mg σ env H' S' As' → Q b H'
def KTs (K : PySem.W.Frag) (mg : Str → Option Value) (σ : SlotV) (H S : Hp) (As : Fp) (Q : List V → Hp → Prop) (ps : List PV) (env : Env) : Prop :=
  ∀ vs H' S' As', Stp H S As H' S' As' → Rel K mg σ env H' S' As' → Rps K mg S' vs ps → Q vs H'
def RvsOk (K : PySem.W.Frag) (mg : Str → Option Value) (σ : SlotV) (H S : Hp) (As : Fp) : List V → List RV → List Addr → Prop
  | vs, [], B => vs = [] ∧ B = []
  | vs, r :: rs, B => ∃ v vs' B1 B2, vs = v :: vs' ∧ B = B1 ++ B2 ∧ RvOk K mg σ H S As v r B1 ∧ RvsOk K mg σ H S As vs' rs B2 ∧ ∀ b ∈ B1, b ∉ B2
def KHs (K : PySem.W.Frag) (mg : Str → Option Value) (σ : SlotV) (H S : Hp) (As : Fp) (Q : List V → Hp → Prop) (rs : List RV) (env : Env) : Prop :=
  ∀ vs H' S' As' B, Stp H S As H' S' As' → Rel K mg σ env H' S' As' → RvsOk K mg σ H' S' As' vs rs B → (∀ b ∈ B, H b = none ∨ Own As b) → Q vs H'
def liftE (K : PySem.W.Frag) (mg : Str → Option Value) (W : WX) (f : Env → Res (RV × Env)) : TE := fun σ H Q => ∃ env S As, Rel K mg σ env H S As ∧ Post K mg W H S As (f env) (KE K mg σ H S As Q)
def liftT (K : PySem.W.Frag) (mg : Str → Option Value) (W : WX) (f : Env → Res (Bool × Env)) : TT := fun σ H Q => ∃ env S As, Rel K mg σ env H S As ∧ Post K mg W H S As (f env) (KT K mg σ H S As Q)
def liftTs (K : PySem.W.Frag) (mg : Str → Option Value) (W : WX) (f : Env → Res (List PV × Env)) : TA := fun σ H Q => ∃ env S As, Rel K mg σ env H S As ∧ Post K mg W H S As (f env) (KTs K mg σ H S As Q)
def liftHs (K : PySem.W.Frag) (mg : Str → Option Value) (W : WX) (f : Env → Res (List RV × Env)) : TA := fun σ H Q => ∃ env S As, Rel K mg σ env H S As ∧ Post K mg W H S As (f env) (KHs K mg σ H S As Q)
variable {W : WX}
theorem Post.mono {α : Type} {r : Res (α × Env)} {k k' : α → Env → Prop} (h : Post K mg W H S As r k) (f : ∀ a e, k a e → k' a e) : Post K mg W H S As r k' := by
  cases r with
  | ok a => exact f _ _ h
  | exc C fs e => exact h
  | stuck => exact h
theorem liftE.mono {f : Env → Res (RV × Env)} {Q Q' : VK} (h : liftE K mg W f σ H Q) (hq : ∀ v H, Q v H → Q' v H) : liftE K mg W f σ H Q' :=
  let ⟨env, S, As, R, p⟩ := h
  ⟨env, S, As, R, p.mono fun _ _ k v H' S' As' B a b c d => hq _ _ (k v H' S' As' B a b c d)⟩
theorem liftT.mono {f : Env → Res (Bool × Env)} {Q Q' : Bool → Hp → Prop} (h : liftT K mg W f σ H Q) (hq : ∀ v H, Q v H → Q' v H) : liftT K mg W f σ H Q' :=
  let ⟨env, S, As, R, p⟩ := h
  ⟨env, S, As, R, p.mono fun _ _ k H' S' As' a b => hq _ _ (k H' S' As' a b)⟩
theorem liftTs.mono {f : Env → Res (List PV × Env)} {Q Q' : List V → Hp → Prop} (h : liftTs K mg W f σ H Q) (hq : ∀ v H, Q v H → Q' v H) : liftTs K mg W f σ H Q' :=
  let ⟨env, S, As, R, p⟩ := h
  ⟨env, S, As, R, p.mono fun _ _ k v H' S' As' a b c => hq _ _ (k v H' S' As' a b c)⟩
theorem liftHs.mono {f : Env → Res (List RV × Env)} {Q Q' : List V → Hp → Prop} (h : liftHs K mg W f σ H Q) (hq : ∀ v H, Q v H → Q' v H) : liftHs K mg W f σ H Q' :=
  let ⟨env, S, As, R, p⟩ := h
  ⟨env, S, As, R, p.mono fun _ _ k v H' S' As' B a b c d => hq _ _ (k v H' S' As' B a b c d)⟩
theorem Post.opt {α β : Type} {x : Option α} {g : α → Res (β × Env)} {k : β → Env → Prop} (h : Post K mg W H S As ((optR x).bind g) k) : ∃ a, x = some a ∧ Post K mg W H S As (g a) k := by
  cases x with
  | none => exact False.elim h
  | some a => exact ⟨a, rfl, h⟩
/-- from a whole's wish to a part's -/
theorem Post.part {α β : Type} {r : Res (α × Env)} {g : α × Env → Res (β × Env)} {k : β → Env → Prop} (st : Stp H₀ S₀ As₀ H S As) (h : Post K mg W H₀ S₀ As₀ (r.bind g) k) : Post K mg W H S As r (fun a e => Post K mg W H₀ S₀ As₀ (g (a, e)) k) := by
  cases r with
  | ok a => exact h
  | exc C fs e => exact fun σ H' S' As' cls d s => h σ H' S' As' cls d (st.trans s)
  | stuck => exact h
theorem bindE {β : Type} {f : Env → Res (RV × Env)} {g : RV × Env → Res (β × Env)} {k : β → Env → Prop} (st : Stp H₀ S₀ As₀ H S As) (R : Rel K mg σ env H S As) (h : Post K mg W H₀ S₀ As₀ ((f env).bind g) k) :
    liftE K mg W f σ H fun v H1 => ∃ rv env1 S1 As1 B, Stp H S As H1 S1 As1 ∧ Rel K mg σ env1 H1 S1 As1 ∧ RvOk K mg σ H1 S1 As1 v rv B ∧ (∀ b ∈ B, H b = none ∨ Own As b) ∧ Post K mg W H₀ S₀ As₀ (g (rv, env1)) k :=
  ⟨env, S, As, R, (Post.part st h).mono fun rv e p v H' S' As' B a b c d => ⟨rv, e, S', As', B, a, b, c, d, p⟩⟩
theorem bindT {β : Type} {f : Env → Res (Bool × Env)} {g : Bool × Env → Res (β × Env)} {k : β → Env → Prop} (st : Stp H₀ S₀ As₀ H S As) (R : Rel K mg σ env H S As) (h : Post K mg W H₀ S₀ As₀ ((f env).bind g) k) :
    liftT K mg W f σ H fun v H1 => ∃ env1 S1 As1, Stp H S As H1 S1 As1 ∧ Rel K mg σ env1 H1 S1 As1 ∧ Post K mg W H₀ S₀ As₀ (g (v, env1)) k :=
  ⟨env, S, As, R, (Post.part st h).mono fun b e p H' S' As' a c => ⟨e, S', As', a, c, p⟩⟩
theorem bindTs {β : Type} {f : Env → Res (List PV × Env)} {g : List PV × Env → Res (β × Env)} {k : β → Env → Prop} (st : Stp H₀ S₀ As₀ H S As) (R : Rel K mg σ env H S As) (h : Post K mg W H₀ S₀ As₀ ((f env).bind g) k) :
    liftTs K mg W f σ H fun vs H1 => ∃ ps env1 S1 As1, Stp H S As H1 S1 As1 ∧ Rel K mg σ env1 H1 S1 As1 ∧ Rps K mg S1 vs ps ∧ Post K mg W H₀ S₀ As₀ (g (ps, env1)) k :=
  ⟨env, S, As, R, (Post.part st h).mono fun ps e p vs H' S' As' a b c => ⟨ps, e, S', As', a, b, c, p⟩⟩
theorem bindHs {β : Type} {f : Env → Res (List RV × Env)} {g : List RV × Env → Res (β × Env)} {k : β → Env → Prop} (st : Stp H₀ S₀ As₀ H S As) (R : Rel K mg σ env H S As) (h : Post K mg W H₀ S₀ As₀ ((f env).bind g) k) :
    liftHs K mg W f σ H fun vs H1 => ∃ rs env1 S1 As1 B, Stp H S As H1 S1 As1 ∧ Rel K mg σ env1 H1 S1 As1 ∧ RvsOk K mg σ H1 S1 As1 vs rs B ∧ (∀ b ∈ B, H b = none ∨ Own As b) ∧ Post K mg W H₀ S₀ As₀ (g (rs, env1)) k :=
  ⟨env, S, As, R, (Post.part st h).mono fun rs e p vs H' S' As' B a b c d => ⟨rs, e, S', As', B, a, b, c, d, p⟩⟩
/-- a result that an operation gives ends an expression -/
theorem finVR {vr : VR} {z : V} {H3 : Hp} {Q : VK} (st : Stp H₀ S₀ As₀ H S As) (R : Rel K mg σ env H S As) (h : VRok K mg H S vr z H3) (q : KE K mg σ H₀ S₀ As₀ Q (mkV vr) env) : Q z H3 := by
  obtain ⟨S', B, R', st', ok, fr⟩ := VR_fin R h
  exact q z H3 S' As B (st.trans st') R' ok fun b hb => st.fresh (.inl (fr b hb))
theorem finP {p : PV} {z : V} {Q : VK} (st : Stp H₀ S₀ As₀ H S As) (R : Rel K mg σ env H S As) (h : Rp K mg S z p) (q : KE K mg σ H₀ S₀ As₀ Q (.val p) env) : Q z H :=
  q z H S As [] st R ⟨h, rfl⟩ fun b hb => by cases hb
end
/-- a reading may be strengthened -/
theorem PE.imp {X : Cx} {e : Expr} {t t' : TE} (h : PE X e t) (f : ∀ σ H Q, t' σ H Q → t σ H Q) : PE X e t' := ⟨fun pins s σ H Q I q => h.run pins s σ H Q I (f σ H Q q)⟩
theorem PT.imp {X : Cx} {e : Expr} {t t' : TT} (h : PT X e t) (f : ∀ σ H Q, t' σ H Q → t σ H Q) : PT X e t' := ⟨fun pins s σ H Q I q => h.run pins s σ H Q I (f σ H Q q)⟩
theorem PW.imp {X : Cx} {e : Expr} {t t' : TT} (h : PW X e t) (f : ∀ σ H Q, t' σ H Q → t σ H Q) : PW X e t' := ⟨fun wh pins s σ H Q I q => h.run wh pins s σ H Q I (f σ H Q q)⟩
theorem PA.imp {X : Cx} {es : List Expr} {t t' : TA} (h : PA X es t) (f : ∀ σ H Q, t' σ H Q → t σ H Q) : PA X es t' := ⟨fun pos pins s σ H Q I q => h.run pos pins s σ H Q I (f σ H Q q)⟩
theorem PS.imp {X : Cx} {e : Stmt} {t t' : TS} (h : PS X e t) (f : ∀ D σ H, t' D σ H → t D σ H) : PS X e t' := ⟨fun pins s σ H D I q => h.run pins s σ H D I (f D σ H q)⟩
theorem PSs.imp {X : Cx} {e : List Stmt} {t t' : TS} (h : PSs X e t) (f : ∀ D σ H, t' D σ H → t D σ H) : PSs X e t' := ⟨fun pins s σ H D I q => h.run pins s σ H D I (f D σ H q)⟩
end PL
set_option Elab.async false
set_option linter.all false
set_option maxRecDepth 100000
set_option maxHeartbeats 1000000
namespace PL
open PySem PySem.Spec PyProof.Rows L2
/-! ### operators, by plain values -/
def opOf : Bop → Operator
  | .add => .Add | .sub => .Sub | .mul => .Mult | .fdiv => .FloorDiv | .mod => .Mod | .pow => .Pow | .shl => .LShift | .shr => .RShift | .band => .BitAnd | .bor => .BitOr | .bxor => .BitXor
def cpOf : Cop → CmpOp
  | .eq => .Eq | .ne => .NotEq | .lt => .Lt | .le => .LtE | .gt => .Gt | .ge => .GtE | .is => .Is | .isn => .IsNot | .mem => .In | .nmem => .NotIn
def rB (K : PySem.W.Frag) (mg : Str → Option Value) (o : Bop) : R2 := fun x y H Q => ∃ S px py vr, Same S H ∧ Rp1 K mg H S x px ∧ Rp1 K mg H S y py ∧ bopV o px py = some vr ∧ ∀ z H', VRok K mg H S vr z H' → Q z H'
def rC (K : PySem.W.Frag) (mg : Str → Option Value) (o : Cop) : R2 := fun x y H Q => ∃ px py b, Rp K mg H x px ∧ Rp K mg H y py ∧ copV o px py = some b ∧ Q (.bl b) H
section
variable {X : Cx} {K : PySem.W.Frag} {mg : Str → Option Value}
theorem mulOk_ok {i j : Int} (h : mulOk i j = true) : IntMulOk i j := by
  have b : ∀ x : Int, Builtin.Int.intBits x ≤ x.natAbs.log2 + 1 := fun x => by
    unfold Builtin.Int.intBits
    split <;> omega
  have h1 := b i
  have h2 := b j
  have h3 : i.natAbs.log2 + j.natAbs.log2 < 100000000 := of_decide_eq_true h
  have e : bitsLine = 134217728 := by decide
  unfold IntMulOk
  intro z
  rw [Bool.and_eq_true] at z
  have z2 := z.2
  unfold Builtin.Int.intTooBig at z2
  have z3 := of_decide_eq_true z2
  rw [e] at z3
  omega
theorem op_mulP : OpR X (binaryOp .Mult) (rI (fun i j => mulOk i j = true) fun i j => .int (i * j)) := opI fun _ _ _ _ _ _ _ hc q => mul_int q (mulOk_ok hc)
theorem op_fdivP : OpR X (binaryOp .FloorDiv) (rI (fun i j => j ≠ 0 ∧ Builtin.divisionGoesByPylong i j = false) fun i j => .int (i.fdiv j)) := opI fun _ _ _ _ _ _ _ hc q => floordiv_int hc.1 q (.inl hc.2)
theorem Rps.int1 {S : Hp} {i : Int} {v : V} (h : Rp K mg S v (.int i)) : v = .int i := by unfold Rp at h; exact h
theorem rp_int {S : Hp} {i : Int} {v : V} (h : Rp K mg S v (.int i)) : v = .int i := by unfold Rp at h; exact h
theorem rp_bl {S : Hp} {i : Bool} {v : V} (h : Rp K mg S v (.bl i)) : v = .bl i := by unfold Rp at h; exact h
theorem rp_str {S : Hp} {i : Str} {v : V} (h : Rp K mg S v (.str i)) : v = .str i := by unfold Rp at h; exact h
theorem rp_non {S : Hp} {v : V} (h : Rp K mg S v .non) : v = .non := by unfold Rp at h; exact h
theorem rp_ty {S : Hp} {i : String} {v : V} (h : Rp K mg S v (.ty i)) : v = .ty i := by unfold Rp at h; exact h
theorem rp_tupE {S : Hp} {ps : List PV} {v : V} (h : Rp K mg S v (.tup ps)) : ∃ a vs, v = .ref a ∧ S a = some (.tup vs) ∧ Rps K mg S vs ps := by unfold Rp at h; exact h
theorem rp_tup {S : Hp} {ps : List PV} {v : V} (h : Rp K mg S v (.tup ps)) : ∃ a vs, v = .ref a ∧ SqT K S a vs ∧ Rps K mg S vs ps := let ⟨a, vs, e, h1, h2⟩ := rp_tupE h; ⟨a, vs, e, SqT.of h1, h2⟩
theorem rp_dcl {S : Hp} {kvs : List (List L2.Key × PV)} {v : V} (h : Rp K mg S v (.dcl kvs)) : ∃ a ws, v = .ref a ∧ DL (S a) ws ∧ Rpd K mg S ws kvs := by unfold Rp at h; exact h
theorem rp_dct {S : Hp} {b : Bool} {kvs : List (List L2.Key × PV)} {v : V} (h : Rp K mg S v (.dct b kvs)) : ∃ a ws, v = .ref a ∧ DH b (S a) ws ∧ Rpd K mg S ws kvs := by unfold Rp at h; exact h
theorem rp_obj {S : Hp} {C : Str} {fs : List (Str × PV)} {v : V} (h : Rp K mg S v (.obj C fs)) : ∃ a c dx gs, v = .ref a ∧ mg C = some (.ref c) ∧ S a = some (.ins c dx gs) ∧ Rpf K mg S gs fs := by unfold Rp at h; exact h
theorem rp_lst {S : Hp} {ps : List PV} {v : V} (h : Rp K mg S v (.lst ps)) : ∃ a vs, v = .ref a ∧ S a = some (.lst vs) ∧ Rps K mg S vs ps := by unfold Rp at h; exact h
theorem rp_scr {S : Hp} {ns : List Int} {v : V} (h : Rp K mg S v (.scr ns)) : ∃ a, v = .ref a ∧ SqL K S a (ns.map V.int) := by unfold Rp at h; exact h
theorem rq_int {H S : Hp} {i : Int} {v : V} (h : Rp1 K mg H S v (.int i)) : v = .int i := rp_int (K := K) (mg := mg) (S := S) h
theorem rq_bl {H S : Hp} {i : Bool} {v : V} (h : Rp1 K mg H S v (.bl i)) : v = .bl i := rp_bl (K := K) (mg := mg) (S := S) h
theorem rq_str {H S : Hp} {i : Str} {v : V} (h : Rp1 K mg H S v (.str i)) : v = .str i := rp_str (K := K) (mg := mg) (S := S) h
theorem rq_non {H S : Hp} {v : V} (h : Rp1 K mg H S v .non) : v = .non := rp_non (K := K) (mg := mg) (S := S) h
theorem rq_ty {H S : Hp} {i : String} {v : V} (h : Rp1 K mg H S v (.ty i)) : v = .ty i := rp_ty (K := K) (mg := mg) (S := S) h
theorem rq_tup {H S : Hp} {ps : List PV} {v : V} (h : Rp1 K mg H S v (.tup ps)) : ∃ a vs, v = .ref a ∧ SqT K S a vs ∧ Rps K mg S vs ps := rp_tup (K := K) (mg := mg) (S := S) h
theorem rq_scr {H S : Hp} {ns : List Int} {v : V} (h : Rp1 K mg H S v (.scr ns)) : ∃ a, v = .ref a ∧ SqL K S a (ns.map V.int) := rp_scr (K := K) (mg := mg) (S := S) h
theorem Rps.rep {S : Hp} {ps : List PV} {vs : List V} (h : Rps K mg S vs ps) : ∀ n, Rps K mg S (List.replicate n vs).flatten (List.replicate n ps).flatten
  | 0 => Rps.nil
  | n + 1 => by
    rw [List.replicate_succ, List.replicate_succ, List.flatten_cons, List.flatten_cons]
    exact h.append (Rps.rep h n)
theorem op_b (o : Bop) : OpR X (binaryOp (opOf o)) (rB X.K mg o) := by
  intro pins s σ H x y v u Q I rx ry h
  obtain ⟨S, px, py, vr, sub, h1, h2, e, q⟩ := h
  unfold bopV at e
  split at e
  · cases e; cases rq_int h1; cases rq_int h2
    exact op_add pins s σ H _ _ v u Q I rx ry ⟨_, _, rfl, rfl, q _ _ ⟨rfl, Rp.int _⟩⟩
  · cases e; cases rq_int h1; cases rq_int h2
    exact op_sub pins s σ H _ _ v u Q I rx ry ⟨_, _, rfl, rfl, q _ _ ⟨rfl, Rp.int _⟩⟩
  · split at e
    · rename_i hc
      cases e; cases rq_int h1; cases rq_int h2
      exact op_mulP pins s σ H _ _ v u Q I rx ry ⟨_, _, rfl, rfl, hc, q _ _ ⟨rfl, Rp.int _⟩⟩
    · cases e
  · split at e
    · rename_i hc
      cases e; cases rq_int h1; cases rq_int h2
      exact op_fdivP pins s σ H _ _ v u Q I rx ry ⟨_, _, rfl, rfl, hc, q _ _ ⟨rfl, Rp.int _⟩⟩
    · cases e
  · split at e
    · rename_i hc
      cases e; cases rq_int h1; cases rq_int h2
      exact op_modN pins s σ H _ _ v u Q I rx ry ⟨_, _, rfl, rfl, hc, q _ _ ⟨rfl, Rp.int _⟩⟩
    · cases e
  · split at e
    · rename_i hc
      cases e; cases rq_int h1; cases rq_int h2
      exact op_pow pins s σ H _ _ v u Q I rx ry ⟨_, _, rfl, rfl, hc, q _ _ ⟨rfl, Rp.int _⟩⟩
    · cases e
  · split at e
    · rename_i hc
      cases e; cases rq_int h1; cases rq_int h2
      exact op_shl pins s σ H _ _ v u Q I rx ry ⟨_, _, rfl, rfl, hc, q _ _ ⟨rfl, Rp.int _⟩⟩
    · cases e
  · split at e
    · rename_i hc
      cases e; cases rq_int h1; cases rq_int h2
      exact op_shr pins s σ H _ _ v u Q I rx ry ⟨_, _, rfl, rfl, hc, q _ _ ⟨rfl, Rp.int _⟩⟩
    · cases e
  · cases e; cases rq_int h1; cases rq_int h2
    exact op_and pins s σ H _ _ v u Q I rx ry ⟨_, _, rfl, rfl, q _ _ ⟨rfl, Rp.int _⟩⟩
  · split at e
    · rename_i xs ys hc
      cases e
      have r1 := h1
      have r2 := h2
      obtain ⟨a, vs, rfl, t1, m1⟩ := rq_tup r1
      obtain ⟨b, ws, rfl, t2, m2⟩ := rq_tup r2
      refine op_catA pins s σ H _ _ v u Q I rx ry ⟨a, b, vs, ws, rfl, rfl, Same.sqT sub t1, Same.sqT sub t2, by rw [m1.length, m2.length]; exact hc, fun z => ?_, fun _ z => ?_, fun _ _ p n => ?_⟩
      · subst z
        have : xs = [] := List.eq_nil_of_length_eq_zero (by rw [← m1.length]; rfl)
        subst this
        exact q _ _ (.inl ⟨rfl, h2⟩)
      · subst z
        have : ys = [] := List.eq_nil_of_length_eq_zero (by rw [← m2.length]; rfl)
        subst this
        rw [List.append_nil] at q
        exact q _ _ (.inl ⟨rfl, h1⟩)
      · exact q _ _ (.inr ⟨p, _, rfl, n, rfl, m1.append m2⟩)
    · cases e
  · split at e
    · rename_i xs ys hc
      cases e
      obtain ⟨a, vs, rfl, t1, m1⟩ := h1
      obtain ⟨b, ws, rfl, t2, m2⟩ := h2
      exact op_cat pins s σ H _ _ v u Q I rx ry ⟨a, b, vs, ws, rfl, rfl, t1, t2, by rw [m1.length, m2.length]; exact hc, fun p n => q _ _ ⟨p, _, rfl, n, rfl, m1.append m2⟩⟩
    · cases e
  · split at e
    · rename_i xs k hc
      cases e
      obtain ⟨a, vs, rfl, t1, m1⟩ := h1
      cases rq_int h2
      exact op_rep pins s σ H _ _ v u Q I rx ry ⟨a, k, vs, rfl, rfl, t1, hc.1, hc.2.1, by rw [m1.length]; exact hc.2.2, fun p n => q _ _ ⟨p, _, rfl, n, rfl, m1.rep _⟩⟩
    · cases e
  · split at e
    · rename_i xs k hc
      cases e
      have r1 := h1
      obtain ⟨a, vs, rfl, t1, m1⟩ := rq_tup r1
      cases rq_int h2
      refine op_repT pins s σ H _ _ v u Q I rx ry ⟨a, k, vs, rfl, rfl, Same.sqT sub t1, fun z => hc.1 ?_, hc.2.1, hc.2.2.1, by rw [m1.length]; exact hc.2.2.2, fun p n => q _ _ (.inr ⟨p, _, rfl, n, rfl, m1.rep _⟩)⟩
      subst z
      exact List.eq_nil_of_length_eq_zero (by rw [← m1.length]; rfl)
    · cases e
  · cases e
theorem shp_some {p : PV} (h : shp p = true) : ∃ d, toD p = some d ∧ SeqAt.shaped d = true := by
  unfold shp at h
  split at h
  · rename_i d e; exact ⟨d, e, h⟩
  · cases h
theorem toDs_any : ∀ {xs : List PV} {ds : List PyData} {p : PV} {d : PyData}, toDs xs = some ds → toD p = some d → (ds.any fun z => PyData.eqv z d) = memP xs p
  | [], ds, p, d, e, e' => by unfold toDs at e; cases e; rfl
  | x :: xs, ds, p, d, e, e' => by
    unfold toDs at e
    split at e
    · rename_i dx ds' h1 h2
      cases e
      have ih := toDs_any (p := p) h2 e'
      unfold memP at ih ⊢
      rw [List.any_cons, List.any_cons, ih]
      unfold eqP
      rw [h1, e']
    · cases e
theorem op_inT (hu : X.A.units + 65 < cLine) : OpR X (compareOp .In) (fun x y H Q => ∃ d ds, Dp X.K H x d ∧ Dp X.K H y (.tuple ds) ∧ SeqAt.shaped d = true ∧ SeqAt.shaped (.tuple ds) = true ∧ Q (.bl (ds.any fun z => PyData.eqv z d)) H) := by
  intro pins s σ H x y v u Q I rx ry h
  obtain ⟨d, ds, hd, he, sd, se, q⟩ := h
  obtain ⟨as, r1⟩ := Dp.reads I d x v hd rx
  obtain ⟨bs, r2⟩ := Dp.reads I (.tuple ds) y u he ry
  exact SeqAt.in_tuple_reads r2 r1 (SeqAt.canLay_of_shaped se) (SeqAt.canLay_of_shaped sd) (room_in_shaped sd hu) ⟨.bl _, H, I, rfl, q⟩
theorem op_notInT (hu : X.A.units + 65 < cLine) : OpR X (compareOp .NotIn) (fun x y H Q => ∃ d ds, Dp X.K H x d ∧ Dp X.K H y (.tuple ds) ∧ SeqAt.shaped d = true ∧ SeqAt.shaped (.tuple ds) = true ∧ Q (.bl (!ds.any fun z => PyData.eqv z d)) H) := by
  intro pins s σ H x y v u Q I rx ry h
  obtain ⟨d, ds, hd, he, sd, se, q⟩ := h
  obtain ⟨as, r1⟩ := Dp.reads I d x v hd rx
  obtain ⟨bs, r2⟩ := Dp.reads I (.tuple ds) y u he ry
  exact SeqAt.notIn_tuple_reads r2 r1 (SeqAt.canLay_of_shaped se) (SeqAt.canLay_of_shaped sd) (room_in_shaped sd hu) ⟨.bl _, H, I, rfl, q⟩
theorem isNon_ok {S : Hp} {p : PV} {v : V} (h : Rp K mg S v p) : decide (v = .non) = isNon p := by
  cases p with
  | non => cases rp_non h; rfl
  | bl b => cases rp_bl h; rfl
  | int i => cases rp_int h; rfl
  | str x => cases rp_str h; rfl
  | ty n => cases rp_ty h; rfl
  | tup ps => obtain ⟨a, vs, rfl, _⟩ := rp_tup h; rfl
  | lst ps => obtain ⟨a, vs, rfl, _⟩ := rp_lst h; rfl
  | scr ps => obtain ⟨a, rfl, _⟩ := rp_scr h; rfl
  | obj C fs => obtain ⟨a, c, dx, gs, rfl, _⟩ := rp_obj h; rfl
  | dct b kvs => obtain ⟨a, ws, rfl, _⟩ := rp_dct h; rfl
  | dcl kvs => obtain ⟨a, ws, rfl, _⟩ := rp_dcl h; rfl
/-! keys -/
theorem keyA_ok {S : Hp} {p : PV} {v : V} {k : L2.Key} (h : Rp K mg S v p) (e : keyA p = some k) : v = kV k := by
  cases p with
  | int i => cases rp_int h; cases e; rfl
  | str x => cases rp_str h; cases e; rfl
  | _ => cases e
theorem keyAs_ok {S : Hp} : ∀ {ps : List PV} {vs : List V} {ks : List L2.Key}, Rps K mg S vs ps → keyAs ps = some ks → vs = ks.map kV
  | [], vs, ks, h, e => by cases e; unfold Rps at h; exact h
  | p :: r, vs, ks, h, e => by
    obtain ⟨v, r', rfl, h1, h2⟩ := h.uncons
    unfold keyAs at e
    split at e
    · rename_i k ks' e1 e2
      cases e
      rw [keyA_ok h1 e1, keyAs_ok h2 e2]
      rfl
    · cases e
theorem keyT_ok {S : Hp} {p : PV} {v : V} {k : List L2.Key} (h : Rp K mg S v p) (e : keyP true p = some k) : ∃ b, v = .ref b ∧ S b = some (.tup (k.map kV)) := by
  cases p with
  | tup ps =>
    obtain ⟨a, vs, rfl, h1, h2⟩ := rp_tupE h
    exact ⟨a, rfl, by rw [← keyAs_ok h2 e]; exact h1⟩
  | _ => cases e
theorem Rpd.find {S : Hp} (k : List L2.Key) : ∀ {kvs : List (List L2.Key × PV)} {ws : List (List L2.Key × V)}, Rpd K mg S ws kvs → (valV ws k).isSome = dHas kvs k ∧ ∀ p, dGet kvs k = some p → ∃ v, valV ws k = some v ∧ Rp K mg S v p
  | [], ws, h => by unfold Rpd at h; subst h; exact ⟨rfl, fun p e => by cases e⟩
  | (k', q) :: r, ws, h => by
    unfold Rpd at h
    obtain ⟨v, r', rfl, h1, h2⟩ := h
    obtain ⟨i1, i2⟩ := Rpd.find k h2
    by_cases e : k' = k
    · rw [valV_pos (p := (k', v)) e]
      refine ⟨by unfold dHas; rw [List.any_cons, decide_eq_true (show ((k', q) : List L2.Key × PV).1 = k from e)]; rfl, fun p hp => ⟨v, rfl, ?_⟩⟩
      unfold dGet at hp
      rw [List.find?_cons, decide_eq_true (show ((k', q) : List L2.Key × PV).1 = k from e)] at hp
      cases hp
      exact h1
    · rw [valV_neg (p := (k', v)) e]
      refine ⟨by unfold dHas; rw [List.any_cons, decide_eq_false (show ¬ ((k', q) : List L2.Key × PV).1 = k from e), Bool.false_or]; exact i1, fun p hp => ?_⟩
      unfold dGet at hp
      rw [List.find?_cons, decide_eq_false (show ¬ ((k', q) : List L2.Key × PV).1 = k from e)] at hp
      exact i2 p hp
theorem valV_one (k : L2.Key) : ∀ ks : List (L2.Key × V), valV (ks.map fun p => ([p.1], p.2)) [k] = valV ks k
  | [] => rfl
  | (k', v) :: r => by
    rw [List.map_cons]
    by_cases e : k' = k
    · rw [valV_pos (p := (k', v)) e, valV_pos (p := ([k'], v)) (by show [k'] = [k]; rw [e])]
    · rw [valV_neg (p := (k', v)) e, valV_neg (p := ([k'], v)) (by intro z; exact e (List.cons.inj z).1), valV_one k r]
/-- what a dict holds at a key -/
theorem dget_ok {H S : Hp} {b : Bool} {a : Addr} {ws : List (List L2.Key × V)} {kvs : List (List L2.Key × PV)} {p : PV} {y : V} {k : List L2.Key} (h : DH b (H a) ws) (r : Rpd K mg S ws kvs) (hy : Rp K mg H y p) (e : keyP b p = some k) :
    ∃ o, DGet H a y o ∧ o.isSome = dHas kvs k ∧ ∀ p, dGet kvs k = some p → ∃ v, o = some v ∧ Rp K mg S v p := by
  obtain ⟨i1, i2⟩ := r.find k
  cases b with
  | true =>
    obtain ⟨c, rfl, hc⟩ := keyT_ok hy e
    exact ⟨_, DGet.t h hc, i1, i2⟩
  | false =>
    obtain ⟨ks, h1, rfl⟩ := h
    unfold keyP at e
    simp only [Option.map_eq_some_iff] at e
    obtain ⟨k0, e1, rfl⟩ := e
    cases keyA_ok hy e1
    rw [valV_one] at i1 i2
    exact ⟨_, DGet.k h1, i1, i2⟩
theorem dgetl_ok {H S : Hp} {a : Addr} {ws : List (List L2.Key × V)} {kvs : List (List L2.Key × PV)} {p : PV} {y : V} {k : List L2.Key} (h : DL (H a) ws) (r : Rpd K mg S ws kvs) (hy : Rp K mg H y p) (e : keyP false p = some k) :
    ∃ o, DGet H a y o ∧ o.isSome = dHas kvs k ∧ ∀ p, dGet kvs k = some p → ∃ v, o = some v ∧ Rp K mg S v p := by
  obtain ⟨i1, i2⟩ := r.find k
  obtain ⟨ob, ks, h1, rfl⟩ := h
  unfold keyP at e
  simp only [Option.map_eq_some_iff] at e
  obtain ⟨k0, e1, rfl⟩ := e
  cases keyA_ok hy e1
  rw [valV_one] at i1 i2
  exact ⟨_, .inl ⟨ks, k0, .inr ⟨ob, h1⟩, rfl, rfl⟩, i1, i2⟩
theorem op_inDct (hu : X.A.units + 65 < cLine) : OpR X (compareOp .In) (fun x y H Q => ∃ a o, y = .ref a ∧ DGet H a x o ∧ Q (.bl o.isSome) H) := by
  intro pins s σ H x y v u Q I rx ry h
  obtain ⟨a, o, rfl, g, q⟩ := h
  obtain rfl : u = Value.ref a := ry
  exact d_in (by omega) I g rx fun s3 I3 => ⟨.bl o.isSome, H, I3, rfl, q⟩
theorem op_notInDct (hu : X.A.units + 65 < cLine) : OpR X (compareOp .NotIn) (fun x y H Q => ∃ a o, y = .ref a ∧ DGet H a x o ∧ Q (.bl (!o.isSome)) H) := by
  intro pins s σ H x y v u Q I rx ry h
  obtain ⟨a, o, rfl, g, q⟩ := h
  obtain rfl : u = Value.ref a := ry
  exact d_notIn (by omega) I g rx fun s3 I3 => ⟨.bl (!o.isSome), H, I3, rfl, q⟩
theorem ix_dct (hu : X.A.units + 65 < cLine) : IxR X (fun x y H Q => ∃ a v, x = .ref a ∧ DGet H a y (some v) ∧ Q v H) := by
  intro value slice pins s σ H x y v u Q I rx ry h hs
  obtain ⟨a, z, rfl, g, q⟩ := h
  obtain rfl : v = Value.ref a := rx
  exact tail_any (dict_typeIs I g) PySem.F.slot_dict_getitem.lookup (d_getItem (by omega) I g ry fun w' s3 I3 rw' => ⟨z, H, I3, rw', q⟩) hs
theorem op_c (hu : X.A.units + 65 < cLine) (o : Cop) : OpR X (compareOp (cpOf o)) (rC X.K mg o) := by
  intro pins s σ H x y v u Q I rx ry h
  obtain ⟨px, py, b, g1, g2, e, q⟩ := h
  have hu64 : X.A.units + 64 < cLine := by omega
  unfold copV at e
  split at e
  · split at e
    · rename_i hc
      cases e
      obtain ⟨d, d1, d2⟩ := shp_some hc.1
      obtain ⟨c, c1, c2⟩ := shp_some hc.2
      refine op_eqD hu64 pins s σ H x y v u Q I rx ry ⟨d, c, Rp.dp _ _ _ g1 d1, Rp.dp _ _ _ g2 c1, d2, c2, ?_⟩
      unfold eqP at q
      rw [d1, c1] at q
      exact q
    · cases e
  · split at e
    · rename_i hc
      cases e
      obtain ⟨d, d1, d2⟩ := shp_some hc.1
      obtain ⟨c, c1, c2⟩ := shp_some hc.2
      refine op_neD hu64 pins s σ H x y v u Q I rx ry ⟨d, c, Rp.dp _ _ _ g1 d1, Rp.dp _ _ _ g2 c1, d2, c2, ?_⟩
      unfold eqP at q
      rw [d1, c1] at q
      exact q
    · cases e
  · cases e; cases rp_int g1; cases rp_int g2
    exact op_lt pins s σ H _ _ v u Q I rx ry ⟨_, _, rfl, rfl, q⟩
  · cases e; cases rp_int g1; cases rp_int g2
    exact op_le pins s σ H _ _ v u Q I rx ry ⟨_, _, rfl, rfl, q⟩
  · cases e; cases rp_int g1; cases rp_int g2
    exact op_gt pins s σ H _ _ v u Q I rx ry ⟨_, _, rfl, rfl, q⟩
  · cases e; cases rp_int g1; cases rp_int g2
    exact op_ge pins s σ H _ _ v u Q I rx ry ⟨_, _, rfl, rfl, q⟩
  · cases e; cases rp_non g2
    exact op_isN pins s σ H _ _ v u Q I rx ry ⟨rfl, by rw [isNon_ok g1]; exact q⟩
  · cases e; cases rp_non g2
    exact op_notN pins s σ H _ _ v u Q I rx ry ⟨rfl, by rw [isNon_ok g1]; exact q⟩
  · cases e; cases rp_bl g1; cases rp_bl g2
    exact op_isBl pins s σ H _ _ v u Q I rx ry ⟨_, _, rfl, rfl, q⟩
  · cases e; cases rp_bl g1; cases rp_bl g2
    exact op_notBl pins s σ H _ _ v u Q I rx ry ⟨_, _, rfl, rfl, q⟩
  · split at e
    · rename_i xs hc
      cases e
      obtain ⟨d, d1, d2⟩ := shp_some hc.1
      obtain ⟨c, c1, c2⟩ := shp_some hc.2
      have c0 := c1
      unfold toD at c1
      simp only [Option.map_eq_some_iff] at c1
      obtain ⟨ds, c3, rfl⟩ := c1
      exact op_inT hu pins s σ H x y v u Q I rx ry ⟨d, ds, Rp.dp _ _ _ g1 d1, Rp.dp _ _ _ g2 c0, d2, c2, by rw [toDs_any c3 d1]; exact q⟩
    · cases e
  · split at e
    · rename_i xs hc
      cases e
      obtain ⟨d, d1, d2⟩ := shp_some hc.1
      obtain ⟨c, c1, c2⟩ := shp_some hc.2
      have c0 := c1
      unfold toD at c1
      simp only [Option.map_eq_some_iff] at c1
      obtain ⟨ds, c3, rfl⟩ := c1
      exact op_inD hu pins s σ H x y v u Q I rx ry ⟨d, ds, Rp.dp _ _ _ g1 d1, Rp.dp _ _ _ g2 c0, d2, c2, by rw [toDs_any c3 d1]; exact q⟩
    · cases e
  · split at e
    · rename_i xs hc
      cases e
      obtain ⟨d, d1, d2⟩ := shp_some hc.1
      obtain ⟨c, c1, c2⟩ := shp_some hc.2
      have c0 := c1
      unfold toD at c1
      simp only [Option.map_eq_some_iff] at c1
      obtain ⟨ds, c3, rfl⟩ := c1
      exact op_notInT hu pins s σ H x y v u Q I rx ry ⟨d, ds, Rp.dp _ _ _ g1 d1, Rp.dp _ _ _ g2 c0, d2, c2, by rw [toDs_any c3 d1]; exact q⟩
    · cases e
  · split at e
    · rename_i xs hc
      cases e
      obtain ⟨d, d1, d2⟩ := shp_some hc.1
      obtain ⟨c, c1, c2⟩ := shp_some hc.2
      have c0 := c1
      unfold toD at c1
      simp only [Option.map_eq_some_iff] at c1
      obtain ⟨ds, c3, rfl⟩ := c1
      exact op_notInD hu pins s σ H x y v u Q I rx ry ⟨d, ds, Rp.dp _ _ _ g1 d1, Rp.dp _ _ _ g2 c0, d2, c2, by rw [toDs_any c3 d1]; exact q⟩
    · cases e
  · simp only [Option.map_eq_some_iff] at e
    obtain ⟨k, e1, rfl⟩ := e
    obtain ⟨a, ws, rfl, d1, d2⟩ := rp_dct g2
    obtain ⟨o, o1, o2, o3⟩ := dget_ok d1 d2 g1 e1
    exact op_inDct hu pins s σ H x _ v u Q I rx ry ⟨a, o, rfl, o1, by rw [o2]; exact q⟩
  · simp only [Option.map_eq_some_iff] at e
    obtain ⟨k, e1, rfl⟩ := e
    obtain ⟨a, ws, rfl, d1, d2⟩ := rp_dct g2
    obtain ⟨o, o1, o2, o3⟩ := dget_ok d1 d2 g1 e1
    exact op_notInDct hu pins s σ H x _ v u Q I rx ry ⟨a, o, rfl, o1, by rw [o2]; exact q⟩
  · simp only [Option.map_eq_some_iff] at e
    obtain ⟨k, e1, rfl⟩ := e
    obtain ⟨a, ws, rfl, d1, d2⟩ := rp_dcl g2
    obtain ⟨o, o1, o2, o3⟩ := dgetl_ok d1 d2 g1 e1
    exact op_inDct hu pins s σ H x _ v u Q I rx ry ⟨a, o, rfl, o1, by rw [o2]; exact q⟩
  · simp only [Option.map_eq_some_iff] at e
    obtain ⟨k, e1, rfl⟩ := e
    obtain ⟨a, ws, rfl, d1, d2⟩ := rp_dcl g2
    obtain ⟨o, o1, o2, o3⟩ := dgetl_ok d1 d2 g1 e1
    exact op_notInDct hu pins s σ H x _ v u Q I rx ry ⟨a, o, rfl, o1, by rw [o2]; exact q⟩
  · cases e
/-! ### truth -/
theorem tru_ofP {H : Hp} {p : PV} {v : V} {b : Bool} (h : Rp K mg H v p) (e : truP p = some b) : TruV K v H b := by
  cases p with
  | non => cases rp_non h; cases e; rfl
  | bl x => cases rp_bl h; cases e; rfl
  | int i => cases rp_int h; cases e; rfl
  | tup xs =>
    obtain ⟨a, vs, rfl, t, m⟩ := rp_tup h
    cases e
    refine .inr (.inl ⟨vs, t, ?_⟩)
    have := m.length
    cases vs <;> cases xs <;> simp_all
  | lst xs =>
    obtain ⟨a, vs, rfl, t, m⟩ := rp_lst h
    cases e
    refine .inl ⟨vs, SqL.of t, ?_⟩
    have := m.length
    cases vs <;> cases xs <;> simp_all
  | str x => cases e
  | ty n => cases e
  | scr n => cases e
  | obj C fs => cases e
  | dct b kvs => cases e
  | dcl kvs => cases e
/-- list, tuple, text or dict -/
def rIxA (K : PySem.W.Frag) : R2 := fun x y H Q => rIx K x y H Q ∨ ∃ a v, x = .ref a ∧ DGet H a y (some v) ∧ Q v H
theorem ix_any (hu : X.A.units + 65 < cLine) : IxR X (rIxA X.K) := ix_seq.or (ix_dct hu)
theorem ix_ok {H S : Hp} {p q r : PV} {v w : V} (sub : Same S H) (h : Rp1 K mg H S v p) (h' : Rp K mg H w q) (e : ixP p q = some r) :
    ∃ z, Rp K mg S z r ∧ ∀ (Q : VK), Q z H → rIxA K v w H Q := by
  unfold ixP at e
  split at e
  · rename_i xs i
    obtain ⟨a, vs, rfl, t, m⟩ := rq_tup h
    cases rp_int h'
    unfold atI at e
    cases e1 : ixN xs.length i with
    | none => rw [e1] at e; cases e
    | some j =>
      rw [e1] at e
      obtain ⟨z, z1, z2⟩ := m.get (i := j) (p := r) e
      exact ⟨z, z2, fun Q q => .inl (.inr (.inl ⟨a, vs, i, z, rfl, rfl, Same.sqT sub t, by unfold atI; rw [m.length, e1]; exact z1, q⟩))⟩
  · rename_i xs i
    obtain ⟨a, vs, rfl, t, m⟩ := h
    cases rp_int h'
    unfold atI at e
    cases e1 : ixN xs.length i with
    | none => rw [e1] at e; cases e
    | some j =>
      rw [e1] at e
      obtain ⟨z, z1, z2⟩ := m.get (i := j) (p := r) e
      exact ⟨z, z2, fun Q q => .inl (.inl ⟨a, vs, i, z, rfl, rfl, SqL.of t, by unfold atI; rw [m.length, e1]; exact z1, q⟩)⟩
  · rename_i b kvs k
    simp only [Option.bind_eq_some_iff] at e
    obtain ⟨k0, e1, e2⟩ := e
    obtain ⟨a, ws, rfl, d1, d2⟩ := h
    obtain ⟨o, o1, o2, o3⟩ := dget_ok d1 d2 h' e1
    obtain ⟨z, rfl, hz⟩ := o3 _ e2
    exact ⟨z, hz, fun Q q => .inr ⟨a, z, rfl, o1, q⟩⟩
  · rename_i kvs
    simp only [Option.bind_eq_some_iff] at e
    obtain ⟨k0, e1, e2⟩ := e
    obtain ⟨a, ws, rfl, ⟨ob, ks, d1, d3⟩, d2⟩ := rp_dcl (show Rp K mg S v (.dcl kvs) from h)
    obtain ⟨o, o1, o2, o3⟩ := dgetl_ok ⟨ob, ks, sub _ _ d1, d3⟩ d2 h' e1
    obtain ⟨z, rfl, hz⟩ := o3 _ e2
    exact ⟨z, hz, fun Q q => .inr ⟨a, z, rfl, o1, q⟩⟩
  · cases e
end
end PL
set_option Elab.async false
set_option linter.all false
set_option maxRecDepth 100000
set_option maxHeartbeats 1000000
namespace PL
open PySem PySem.Spec PyProof.Rows L2
abbrev LE (X : Cx) (W : WX) (e : Expr) (f : Env → Res (RV × Env)) : Prop := PE X e (liftE X.K X.mg W f)
abbrev LT (X : Cx) (W : WX) (e : Expr) (f : Env → Res (Bool × Env)) : Prop := PT X e (liftT X.K X.mg W f)
abbrev LTs (X : Cx) (W : WX) (e : List Expr) (f : Env → Res (List PV × Env)) : Prop := PA X e (liftTs X.K X.mg W f)
abbrev LHs (X : Cx) (W : WX) (e : List Expr) (f : Env → Res (List RV × Env)) : Prop := PA X e (liftHs X.K X.mg W f)
section
variable {X : Cx} {W : WX} {a b c e : Expr} {es : List Expr} {fa fb fc : Env → Res (RV × Env)} {pos : Pos}
theorem le_bad : LE X W e (fun _ => .stuck) := ⟨fun pins s σ H Q I ⟨_, _, _, _, h⟩ => False.elim h⟩
theorem le_var {i : Nat} {x : Str} (hN : X.N[i]? = some x) (hv : Vis X.env.scope x) (hd : (x == ("__debug__" : Str)) = false) (hcd : (x == ("__classdict__" : Str)) = false) :
    LE X W (.Name x pos) (fun env => match get env i with
      | some (.fz p) => .ok (.val p, env)
      | some _ => .ok (.loc i, env)
      | none => .stuck) := by
  refine PE.imp (pe_var hN hv hd hcd) ?_
  rintro σ H Q ⟨env, S, As, R, h⟩
  cases e : get env i with
  | none => simp only [e] at h; exact False.elim h
  | some c =>
    obtain ⟨v, e1, hc⟩ := R.cell i c e
    refine ⟨v, e1, ?_⟩
    simp only [e] at h
    cases c with
    | fz p => unfold CellOk at hc; exact finP Stp.refl R hc.1 h
    | lst xs => exact h v H S As [] Stp.refl R ⟨e1, rfl⟩ (fun b hb => by cases hb)
    | ls xs => exact h v H S As [] Stp.refl R ⟨e1, rfl⟩ (fun b hb => by cases hb)
    | dct bb xs => exact h v H S As [] Stp.refl R ⟨e1, rfl⟩ (fun b hb => by cases hb)
    | obj C fs => exact h v H S As [] Stp.refl R ⟨e1, rfl⟩ (fun b hb => by cases hb)
theorem le_con {v : V} {p : PV} (h : PE X e (tC v)) (r : ∀ S, Rp X.K X.mg S v p) : LE X W e (fun env => .ok (.val p, env)) := by
  refine PE.imp h ?_
  rintro σ H Q ⟨env, S, As, R, h⟩
  exact finP Stp.refl R (r S) h
theorem RvOk.there {σ : SlotV} {H S : Hp} {As : Fp} {K : PySem.W.Frag} {mg : Str → Option Value} {v : V} {rv : RV} {B : List Addr} (h : RvOk K mg σ H S As v rv B) : ∀ b ∈ B, H b ≠ none ∧ ¬ Own As b ∧ S b = none := by
  intro b hb
  cases rv with
  | val p => rw [h.2] at hb; cases hb
  | loc j => rw [h.2] at hb; cases hb
  | new c => exact ⟨CellOk.there _ _ _ h.1 b hb, (h.2 b hb).1, (h.2 b hb).2⟩
  | brw j p c =>
    obtain ⟨v0, d, h0, h1, hg, h2, h3, h4⟩ := h
    exact ⟨CellOk.there _ _ _ h1 b hb, h3 b hb⟩
theorem RvOk.thereN {σ : SlotV} {H S : Hp} {As : Fp} {K : PySem.W.Frag} {mg : Str → Option Value} {v : V} {rv : RV} {B : List Addr} (h : RvOk K mg σ H S As v rv B) : ∀ b ∈ B, ¬ Nw (H b) := by
  intro b hb
  cases rv with
  | val p => rw [h.2] at hb; cases hb
  | loc j => rw [h.2] at hb; cases hb
  | new c => exact CellOk.thereN _ _ _ h.1 b hb
  | brw j p c =>
    obtain ⟨v0, d, h0, h1, hg, h2, h3, h4⟩ := h
    exact CellOk.thereN _ _ _ h1 b hb
theorem RvOk.own {σ : SlotV} {H S : Hp} {As As' : Fp} {K : PySem.W.Frag} {mg : Str → Option Value} {v : V} {rv : RV} {B : List Addr} (h : RvOk K mg σ H S As v rv B) (hr : As'.root = As.root) (hB : ∀ b ∈ B, ¬ Own As' b) : RvOk K mg σ H S As' v rv B := by
  cases rv with
  | val p => exact h
  | loc j => exact h
  | new c => exact ⟨h.1, fun b hb => ⟨hB b hb, (h.2 b hb).2⟩⟩
  | brw j p c =>
    obtain ⟨v0, d, h0, h1, hg, h2, h3, h4⟩ := h
    exact ⟨v0, d, h0, h1, hg, h2, fun b hb => ⟨hB b hb, (h3 b hb).2⟩, fun z a r e => by rw [hr]; exact h4 z a r e⟩
section
variable {K : PySem.W.Frag} {mg : Str → Option Value} {H S H₀ S₀ H₁ S₁ : Hp} {As As₀ As₁ : Fp} {σ : SlotV} {env : Env}
theorem RvsOk.there : ∀ {rs : List RV} {vs : List V} {B : List Addr}, RvsOk K mg σ H S As vs rs B → ∀ b ∈ B, H b ≠ none ∧ ¬ Own As b ∧ S b = none
  | [], vs, B, h, b, hb => by rw [h.2] at hb; cases hb
  | r :: rs, vs, B, h, b, hb => by
    obtain ⟨v, vs', B1, B2, rfl, rfl, h1, h2, h3⟩ := h
    rcases List.mem_append.mp hb with hb | hb
    · exact h1.there b hb
    · exact RvsOk.there h2 b hb
/-- all that was borrowed goes back -/
theorem unbs_ok (R : Rel K mg σ env H S As) (st : Stp H₀ S₀ As₀ H S As) : ∀ {rs : List RV} {vs : List V} {B : List Addr}, RvsOk K mg σ H S As vs rs B → (∀ b ∈ B, H₀ b = none ∨ Own As₀ b) →
    ∃ As', Rel K mg σ (unbs rs env) H S As' ∧ Stp H₀ S₀ As₀ H S As' ∧ ∀ b, Own As' b → Own As b ∨ b ∈ B
  | [], vs, B, h, hB => ⟨As, R, st, fun b => .inl⟩
  | r :: rs, vs, B, h, hB => by
    obtain ⟨v, vs', B1, B2, rfl, rfl, h1, h2, h3⟩ := h
    obtain ⟨As1, R1, st1, o1⟩ := unbs_ok R st h2 fun b hb => hB b (List.mem_append_right _ hb)
    have h1' : RvOk K mg σ H S As1 v r B1 := h1.own (st1.root.trans st.root.symm) fun b hb z => (o1 b z).elim (h1.there b hb).2.1 (h3 b hb)
    obtain ⟨As2, R2, st2, o2⟩ := unb_ok R1 h1' st1 fun b hb => hB b (List.mem_append_left _ hb)
    exact ⟨As2, R2, st2, fun b hb => (o2 b hb).elim (fun z => (o1 b z).imp id fun z => List.mem_append_right _ z) fun z => .inr (List.mem_append_left _ z)⟩
theorem RvsOk.stp {σ : SlotV} {H S H' S' : Hp} {As As' : Fp} {K : PySem.W.Frag} {mg : Str → Option Value} (s : Stp H S As H' S' As') : ∀ {rs : List RV} {vs : List V} {B : List Addr}, RvsOk K mg σ H S As vs rs B → RvsOk K mg σ H' S' As' vs rs B
  | [], vs, B, h => h
  | r :: rs, vs, B, h => by
    obtain ⟨v, vs', B1, B2, h1, h2, h3, h4, h5⟩ := h
    exact ⟨v, vs', B1, B2, h1, h2, h3.stp s, RvsOk.stp s h4, h5⟩
theorem mkV_norm (vr : VR) : (∃ p, mkV vr = .val p) ∨ ∃ c, mkV vr = .new c := by
  cases vr with
  | sc p => exact .inl ⟨_, rfl⟩
  | tup p => exact .inl ⟨_, rfl⟩
  | lst p => exact .inr ⟨_, rfl⟩
  | srt p => exact .inr ⟨_, rfl⟩
/-- a result that an operation gives, what was borrowed goes back -/
theorem finU {vr : VR} {z : V} {H3 : Hp} {Q : VK} {rs : List RV} {vs : List V} {B : List Addr} (st : Stp H₀ S₀ As₀ H S As) (R : Rel K mg σ env H S As) (ok : RvsOk K mg σ H S As vs rs B) (hB : ∀ b ∈ B, H₀ b = none ∨ Own As₀ b)
    (h : VRok K mg H S vr z H3) (q : KE K mg σ H₀ S₀ As₀ Q (mkV vr) (unbs rs env)) : Q z H3 := by
  obtain ⟨S', D, R', st', okz, fr⟩ := VR_fin R h
  obtain ⟨As2, R2, st2, o2⟩ := unbs_ok R' (st.trans st') (ok.stp st') hB
  refine q z H3 S' As2 D st2 R2 (okz.own (st2.root.trans (st.trans st').root.symm) fun b hb z => ?_) fun b hb => st.fresh (.inl (fr b hb))
  rcases o2 b z with z | z
  · exact (okz.there b hb).2.1 z
  · exact (ok.there b z).1 (fr b hb)
theorem finUP {p : PV} {z : V} {Q : VK} {rs : List RV} {vs : List V} {B : List Addr} (st : Stp H₀ S₀ As₀ H S As) (R : Rel K mg σ env H S As) (ok : RvsOk K mg σ H S As vs rs B) (hB : ∀ b ∈ B, H₀ b = none ∨ Own As₀ b)
    (h : Rp K mg S z p) (q : KE K mg σ H₀ S₀ As₀ Q (.val p) (unbs rs env)) : Q z H := finU (vr := .sc p) st R ok hB ⟨rfl, h⟩ q
theorem finUT {b : Bool} {Q : Bool → Hp → Prop} {rs : List RV} {vs : List V} {B : List Addr} (st : Stp H₀ S₀ As₀ H S As) (R : Rel K mg σ env H S As) (ok : RvsOk K mg σ H S As vs rs B) (hB : ∀ b ∈ B, H₀ b = none ∨ Own As₀ b)
    (q : KT K mg σ H₀ S₀ As₀ Q b (unbs rs env)) : Q b H := by
  obtain ⟨As2, R2, st2, o2⟩ := unbs_ok R st ok hB
  exact q H S As2 st2 R2
theorem rvs1 {v : V} {r : RV} {B : List Addr} (h : RvOk K mg σ H S As v r B) : RvsOk K mg σ H S As [v] [r] (B ++ []) := ⟨v, [], B, [], rfl, rfl, h, ⟨rfl, rfl⟩, fun b hb z => by cases z⟩
theorem rvsC {v : V} {r : RV} {B1 B2 : List Addr} {vs : List V} {rs : List RV} {S1 : Hp} {As1 : Fp} (h : RvOk K mg σ H₁ S₁ As₁ v r B1) (st : Stp H₁ S₁ As₁ H S As) (hs : RvsOk K mg σ H S As vs rs B2) (fr : ∀ b ∈ B2, H₁ b = none ∨ Own As₁ b) : RvsOk K mg σ H S As (v :: vs) (r :: rs) (B1 ++ B2) :=
  ⟨v, vs, B1, B2, rfl, rfl, h.stp st, hs, fun b hb z => (fr b z).elim (h.there b hb).1 (h.there b hb).2.1⟩
theorem nil_fr {B : List Addr} {P : Addr → Prop} (h : ∀ b ∈ B, P b) : ∀ b ∈ B ++ [], P b := by rw [List.append_nil]; exact h
end
theorem le_bop (o : Bop) (ha : LE X W a fa) (hb : LE X W b fb) : LE X W (.BinOp a (opOf o) b pos)
    (fun env => (fa env).bind fun r => (fb r.2).bind fun q => (optR (rd q.2 r.1)).bind fun x => (optR (rd q.2 q.1)).bind fun y => (optR (bopV o x y)).bind fun v => .ok (mkV v, unb r.1 (unb q.1 q.2))) := by
  refine PE.imp (pe_op (op_b (mg := X.mg) o) ha hb) ?_
  rintro σ H Q ⟨env, S, As, R, h⟩
  refine liftE.mono (bindE Stp.refl R h) ?_
  rintro v H1 ⟨rv, env1, S1, As1, B1, st1, R1, ok1, fr1, h1⟩
  refine liftE.mono (bindE st1 R1 h1) ?_
  rintro w H2 ⟨rw, env2, S2, As2, B2, st2, R2, ok2, fr2, h2⟩
  obtain ⟨px, e1, h2⟩ := h2.opt
  obtain ⟨py, e2, h2⟩ := h2.opt
  obtain ⟨vr, e3, h2⟩ := h2.opt
  exact ⟨S2, px, py, vr, R2.sub, R2.rd (ok1.stp st2) e1, R2.rd ok2 e2, e3, fun z H' hz => finU (rs := [rv, rw]) (st1.trans st2) R2 (rvsC (S1 := S1) (As1 := As1) ok1 st2 (rvs1 ok2) (nil_fr fr2)) (fun b hb => by
    rcases List.mem_append.mp hb with hb | hb
    · exact fr1 b hb
    · exact nil_fr (fun b hb => st1.fresh (fr2 b hb)) b hb) hz h2⟩
theorem Res.bind_ok {α β : Type} {x : Res α} {f : α → Res β} {r : β} (h : x.bind f = .ok r) : ∃ a, x = .ok a ∧ f a = .ok r := by
  cases x with
  | ok a => exact ⟨a, rfl, h⟩
  | exc C fs e => cases h
  | stuck => cases h
/-- a truth value's expression, as a test -/
theorem testOf {F : Env → Res (RV × Env)} {K : PySem.W.Frag} {mg : Str → Option Value} {σ : SlotV} {H : Hp} {Q : Bool → Hp → Prop} (hB : ∀ env r, F env = .ok r → ∃ b, r.1 = .val (.bl b))
    (h : liftT K mg W (truV F) σ H Q) : liftE K mg W F σ H (fun x H' => ∃ k, x = .bl k ∧ Q k H') := by
  obtain ⟨env, S, As, R, h⟩ := h
  refine ⟨env, S, As, R, ?_⟩
  unfold truV at h
  cases e : F env with
  | ok r =>
    obtain ⟨b, hb⟩ := hB env r e
    obtain ⟨rv, e2⟩ := r
    obtain rfl : rv = .val (.bl b) := hb
    rw [e] at h
    exact fun v H' S' As' B st R' ok fr => ⟨b, rp_bl ok.1, h _ _ _ st R'⟩
  | exc C fs e1 => rw [e] at h; exact h
  | stuck => rw [e] at h; exact h
/-- what a comparison means -/
abbrev fCmp (fa fb : Env → Res (RV × Env)) (o : Cop) : Env → Res (RV × Env) := fun env => (fa env).bind fun r => (fb r.2).bind fun q => (optR (rdH q.2 r.1)).bind fun x => (optR (rdH q.2 q.1)).bind fun y => (optR (copV o x y)).bind fun v => .ok (.val (.bl v), unb r.1 (unb q.1 q.2))
theorem imp_cmp (hu : X.A.units + 65 < cLine) (o : Cop) {K : PySem.W.Frag} {mg : Str → Option Value} {σ : SlotV} {H : Hp} {Q : VK}
    (h : liftE K mg W (fCmp fa fb o) σ H Q) : tOp (rC K mg o) (liftE K mg W fa) (liftE K mg W fb) σ H Q := by
  obtain ⟨env, S, As, R, h⟩ := h
  refine liftE.mono (bindE Stp.refl R h) ?_
  rintro v H1 ⟨rv, env1, S1, As1, B1, st1, R1, ok1, fr1, h1⟩
  refine liftE.mono (bindE st1 R1 h1) ?_
  rintro w H2 ⟨rw, env2, S2, As2, B2, st2, R2, ok2, fr2, h2⟩
  obtain ⟨px, e1, h2⟩ := h2.opt
  obtain ⟨py, e2, h2⟩ := h2.opt
  obtain ⟨vr, e3, h2⟩ := h2.opt
  exact ⟨px, py, vr, R2.rdH (ok1.stp st2) e1, R2.rdH ok2 e2, e3, finUP (rs := [rv, rw]) (st1.trans st2) R2 (rvsC (S1 := S1) (As1 := As1) ok1 st2 (rvs1 ok2) (nil_fr fr2)) (fun b hb => by
    rcases List.mem_append.mp hb with hb | hb
    · exact fr1 b hb
    · exact nil_fr (fun b hb => st1.fresh (fr2 b hb)) b hb) (Rp.bl _) h2⟩
theorem le_cmp (hu : X.A.units + 65 < cLine) (o : Cop) (ha : LE X W a fa) (hb : LE X W b fb) (hm : behindInMarks (cpOf o) b = false) : LE X W (.Compare a [cpOf o] [b] pos) (fCmp fa fb o) :=
  PE.imp (pe_cmpR (op_c (mg := X.mg) hu o) ha hb hm) fun _ _ _ h => imp_cmp hu o h
/-- the same as a test -/
theorem lt_cmp (hu : X.A.units + 65 < cLine) (o : Cop) (ha : LE X W a fa) (hb : LE X W b fb) (hm : behindInMarks (cpOf o) b = false) : LT X W (.Compare a [cpOf o] [b] pos) (truV (fCmp fa fb o)) := by
  refine PT.imp (pt_cmpR (op_c (mg := X.mg) hu o) ha hb hm) fun σ H Q h => imp_cmp hu o (testOf (fun env r e => ?_) h)
  obtain ⟨_, _, e⟩ := Res.bind_ok e
  obtain ⟨_, _, e⟩ := Res.bind_ok e
  obtain ⟨_, _, e⟩ := Res.bind_ok e
  obtain ⟨_, _, e⟩ := Res.bind_ok e
  obtain ⟨k, _, e⟩ := Res.bind_ok e
  cases e
  exact ⟨k, rfl⟩
abbrev fChn (fa fb fc : Env → Res (RV × Env)) (o o' : Cop) : Env → Res (RV × Env) := fun env => (fa env).bind fun r => (fb r.2).bind fun q => (optR (rdH q.2 r.1)).bind fun x => (optR (rdH q.2 q.1)).bind fun y => (optR (copV o x y)).bind fun v => match v with
    | false => .ok (.val (.bl false), unb r.1 (unb q.1 q.2))
    | true => (fc q.2).bind fun w => (optR (rdH w.2 q.1)).bind fun y => (optR (rdH w.2 w.1)).bind fun z =>
      (optR (copV o' y z)).bind fun v => .ok (.val (.bl v), unb r.1 (unb q.1 (unb w.1 w.2)))
theorem imp_chn (hu : X.A.units + 65 < cLine) (o o' : Cop) {K : PySem.W.Frag} {mg : Str → Option Value} {σ : SlotV} {H : Hp} {Q : VK}
    (h : liftE K mg W (fChn fa fb fc o o') σ H Q) : tChain (rC K mg o) (rC K mg o') (liftE K mg W fa) (liftE K mg W fb) (liftE K mg W fc) σ H Q := by
  obtain ⟨env, S, As, R, h⟩ := h
  refine liftE.mono (bindE Stp.refl R h) ?_
  rintro v H1 ⟨rv, env1, S1, As1, B1, st1, R1, ok1, fr1, h1⟩
  refine liftE.mono (bindE st1 R1 h1) ?_
  rintro w H2 ⟨rw, env2, S2, As2, B2, st2, R2, ok2, fr2, h2⟩
  obtain ⟨px, e1, h2⟩ := h2.opt
  obtain ⟨py, e2, h2⟩ := h2.opt
  obtain ⟨vr, e3, h2⟩ := h2.opt
  have rs2 := rvsC (S1 := S1) (As1 := As1) ok1 st2 (rvs1 ok2) (nil_fr fr2)
  have fr12 : ∀ b ∈ B1 ++ (B2 ++ []), H b = none ∨ Own As b := fun b hb => by
    rcases List.mem_append.mp hb with hb | hb
    · exact fr1 b hb
    · exact nil_fr (fun b hb => st1.fresh (fr2 b hb)) b hb
  refine ⟨px, py, vr, R2.rdH (ok1.stp st2) e1, R2.rdH ok2 e2, e3, vr, rfl, ?_⟩
  cases vr with
  | false => exact iteF (finUP (rs := [rv, rw]) (st1.trans st2) R2 rs2 fr12 (Rp.bl _) h2)
  | true =>
    refine iteT (liftE.mono (bindE (st1.trans st2) R2 h2) ?_)
    rintro z H3 ⟨rz, env3, S3, As3, B3, st3, R3, ok3, fr3, h3⟩
    obtain ⟨px, e1, h3⟩ := h3.opt
    obtain ⟨py, e2, h3⟩ := h3.opt
    obtain ⟨vr, e3, h3⟩ := h3.opt
    have rs3 := rvsC (S1 := S2) (As1 := As2) ok2 st3 (rvs1 ok3) (nil_fr fr3)
    have f23 : ∀ b ∈ B2 ++ (B3 ++ []), H1 b = none ∨ Own As1 b := fun b hb => by
      rcases List.mem_append.mp hb with hb | hb
      · exact fr2 b hb
      · exact nil_fr (fun b hb => st2.fresh (fr3 b hb)) b hb
    have rs4 := rvsC (S1 := S1) (As1 := As1) ok1 (st2.trans st3) rs3 f23
    refine ⟨px, py, vr, R3.rdH (ok2.stp st3) e1, R3.rdH ok3 e2, e3, finUP (rs := [rv, rw, rz]) ((st1.trans st2).trans st3) R3 rs4 (fun b hb => ?_) (Rp.bl _) h3⟩
    rcases List.mem_append.mp hb with hb | hb
    · exact fr1 b hb
    · exact st1.fresh (f23 b hb)
theorem le_chn (hu : X.A.units + 65 < cLine) (o o' : Cop) (ha : LE X W a fa) (hb : LE X W b fb) (hc : LE X W c fc) (hm : lastMarks [cpOf o, cpOf o'] [b, c] = false) : LE X W (.Compare a [cpOf o, cpOf o'] [b, c] pos) (fChn fa fb fc o o') :=
  PE.imp (pe_chain (op_c (mg := X.mg) hu o) (op_c (mg := X.mg) hu o') ha hb hc hm) fun _ _ _ h => imp_chn hu o o' h
theorem lt_chn (hu : X.A.units + 65 < cLine) (o o' : Cop) (ha : LE X W a fa) (hb : LE X W b fb) (hc : LE X W c fc) (hm : lastMarks [cpOf o, cpOf o'] [b, c] = false) : LT X W (.Compare a [cpOf o, cpOf o'] [b, c] pos) (truV (fChn fa fb fc o o')) := by
  refine PT.imp (pt_chain (op_c (mg := X.mg) hu o) (op_c (mg := X.mg) hu o') ha hb hc hm) fun σ H Q h => imp_chn hu o o' (testOf (fun env r e => ?_) h)
  obtain ⟨_, _, e⟩ := Res.bind_ok e
  obtain ⟨_, _, e⟩ := Res.bind_ok e
  obtain ⟨_, _, e⟩ := Res.bind_ok e
  obtain ⟨_, _, e⟩ := Res.bind_ok e
  obtain ⟨k, _, e⟩ := Res.bind_ok e
  cases k with
  | false => cases e; exact ⟨false, rfl⟩
  | true =>
    obtain ⟨_, _, e⟩ := Res.bind_ok e
    obtain ⟨_, _, e⟩ := Res.bind_ok e
    obtain ⟨_, _, e⟩ := Res.bind_ok e
    obtain ⟨k, _, e⟩ := Res.bind_ok e
    cases e
    exact ⟨k, rfl⟩
theorem val_int {H S : Hp} {As : Fp} {σ : SlotV} {v : V} {i : Int} {B : List Addr} (h : RvOk X.K X.mg σ H S As v (.val (.int i)) B) : v = .int i := rp_int h.1
theorem val_bl {H S : Hp} {As : Fp} {σ : SlotV} {v : V} {i : Bool} {B : List Addr} (h : RvOk X.K X.mg σ H S As v (.val (.bl i)) B) : v = .bl i := rp_bl h.1
theorem le_neg (ha : LE X W a fa) : LE X W (.UnaryOp .USub a pos) (fun env => (fa env).bind fun r => match r.1 with
    | .val (.int i) => .ok (.val (.int (-i)), r.2)
    | _ => .stuck) := by
  refine PE.imp (pe_un un_neg ha) ?_
  rintro σ H Q ⟨env, S, As, R, h⟩
  refine liftE.mono (bindE Stp.refl R h) ?_
  rintro v H1 ⟨rv, env1, S1, As1, B1, st1, R1, ok1, fr1, h1⟩
  split at h1
  · rename_i i e
    obtain rfl : rv = .val (.int i) := e
    exact ⟨i, val_int ok1, finP st1 R1 (Rp.int _) h1⟩
  · exact False.elim h1
theorem le_not (ha : LE X W a fa) : LE X W (.UnaryOp .Not a pos) (fun env => (fa env).bind fun r => match r.1 with
    | .val (.bl b) => .ok (.val (.bl (!b)), r.2)
    | _ => .stuck) := by
  refine PE.imp (pe_not ha) ?_
  rintro σ H Q ⟨env, S, As, R, h⟩
  refine liftE.mono (bindE Stp.refl R h) ?_
  rintro v H1 ⟨rv, env1, S1, As1, B1, st1, R1, ok1, fr1, h1⟩
  split at h1
  · rename_i i e
    obtain rfl : rv = .val (.bl i) := e
    exact ⟨i, val_bl ok1, finP st1 R1 (Rp.bl _) h1⟩
  · exact False.elim h1
theorem le_and (ha : LE X W a fa) (hb : LE X W (.BoolOp .And (b :: es) pos) fb) : LE X W (.BoolOp .And (a :: b :: es) pos) (fun env => (fa env).bind fun r => match r.1 with
    | .val (.bl true) => fb r.2
    | .val (.bl false) => .ok (.val (.bl false), r.2)
    | _ => .stuck) := by
  refine PE.imp (pe_and ha hb) ?_
  rintro σ H Q ⟨env, S, As, R, h⟩
  refine liftE.mono (bindE Stp.refl R h) ?_
  rintro v H1 ⟨rv, env1, S1, As1, B1, st1, R1, ok1, fr1, h1⟩
  split at h1
  · rename_i e
    obtain rfl : rv = .val (.bl true) := e
    have h1' : Post X.K X.mg W H S As ((fb env1).bind fun q => .ok (q.1, q.2)) (KE X.K X.mg σ H S As Q) := by
      revert h1
      cases fb env1 <;> exact id
    refine ⟨true, val_bl ok1, iteT (liftE.mono (bindE st1 R1 h1') ?_)⟩
    rintro w H2 ⟨rw, env2, S2, As2, B2, st2, R2, ok2, fr2, h2⟩
    exact h2 w H2 S2 As2 B2 (st1.trans st2) R2 ok2 fun b hb => st1.fresh (fr2 b hb)
  · rename_i e
    obtain rfl : rv = .val (.bl false) := e
    exact ⟨false, val_bl ok1, iteF (finP st1 R1 (Rp.bl _) h1)⟩
  · exact False.elim h1
theorem le_or (ha : LE X W a fa) (hb : LE X W (.BoolOp .Or (b :: es) pos) fb) : LE X W (.BoolOp .Or (a :: b :: es) pos) (fun env => (fa env).bind fun r => match r.1 with
    | .val (.bl true) => .ok (.val (.bl true), r.2)
    | .val (.bl false) => fb r.2
    | _ => .stuck) := by
  refine PE.imp (pe_or ha hb) ?_
  rintro σ H Q ⟨env, S, As, R, h⟩
  refine liftE.mono (bindE Stp.refl R h) ?_
  rintro v H1 ⟨rv, env1, S1, As1, B1, st1, R1, ok1, fr1, h1⟩
  split at h1
  · rename_i e
    obtain rfl : rv = .val (.bl true) := e
    exact ⟨true, val_bl ok1, iteT (finP st1 R1 (Rp.bl _) h1)⟩
  · rename_i e
    obtain rfl : rv = .val (.bl false) := e
    have h1' : Post X.K X.mg W H S As ((fb env1).bind fun q => .ok (q.1, q.2)) (KE X.K X.mg σ H S As Q) := by
      revert h1
      cases fb env1 <;> exact id
    refine ⟨false, val_bl ok1, iteF (liftE.mono (bindE st1 R1 h1') ?_)⟩
    rintro w H2 ⟨rw, env2, S2, As2, B2, st2, R2, ok2, fr2, h2⟩
    exact h2 w H2 S2 As2 B2 (st1.trans st2) R2 ok2 fun b hb => st1.fresh (fr2 b hb)
  · exact False.elim h1
theorem Post.pass {α : Type} {K : PySem.W.Frag} {mg : Str → Option Value} {H S : Hp} {As : Fp} {r : Res (α × Env)} {k : α → Env → Prop} (h : Post K mg W H S As r k) : Post K mg W H S As (r.bind fun q => .ok (q.1, q.2)) k := by
  cases r <;> exact h
theorem le_ite {ft : Env → Res (Bool × Env)} (hc : LT X W c ft) (ha : LE X W a fa) (hb : LE X W b fb) : LE X W (.IfExp c a b pos) (fun env => (ft env).bind fun r => match r.1 with
    | true => fa r.2
    | false => fb r.2) := by
  refine PE.imp (pe_ifExp hc ha hb) ?_
  rintro σ H Q ⟨env, S, As, R, h⟩
  refine liftT.mono (bindT Stp.refl R h) ?_
  rintro v H1 ⟨env1, S1, As1, st1, R1, h1⟩
  cases v with
  | true =>
    refine iteT (liftE.mono (bindE st1 R1 (Post.pass h1)) ?_)
    rintro w H2 ⟨rw, env2, S2, As2, B2, st2, R2, ok2, fr2, h2⟩
    exact h2 w H2 S2 As2 B2 (st1.trans st2) R2 ok2 fun b hb => st1.fresh (fr2 b hb)
  | false =>
    refine iteF (liftE.mono (bindE st1 R1 (Post.pass h1)) ?_)
    rintro w H2 ⟨rw, env2, S2, As2, B2, st2, R2, ok2, fr2, h2⟩
    exact h2 w H2 S2 As2 B2 (st1.trans st2) R2 ok2 fun b hb => st1.fresh (fr2 b hb)
/-! ### tests -/
theorem lt_truth (ha : LE X W a fa) (he : ∀ whole, isTrue a X.env whole = (do let v ← whole; standAt a.pos; holding [v] (truthy v))) : LT X W a (truV fa) := by
  refine PT.imp (pt_truth ha he) ?_
  rintro σ H Q ⟨env, S, As, R, h⟩
  refine liftE.mono (bindE Stp.refl R h) ?_
  rintro v H1 ⟨rv, env1, S1, As1, B1, st1, R1, ok1, fr1, h1⟩
  obtain ⟨p, e1, h1⟩ := h1.opt
  obtain ⟨k, e2, h1⟩ := h1.opt
  exact ⟨k, tru_ofP (R1.rdH ok1 e1) e2, finUT (rs := [rv]) st1 R1 (rvs1 ok1) (nil_fr fr1) h1⟩
theorem lt_not {ft : Env → Res (Bool × Env)} (ha : LT X W a ft) : LT X W (.UnaryOp .Not a pos) (fun env => (ft env).bind fun r => .ok (!r.1, r.2)) := by
  refine PT.imp (pt_not ha) ?_
  rintro σ H Q ⟨env, S, As, R, h⟩
  refine liftT.mono (bindT Stp.refl R h) ?_
  rintro v H1 ⟨env1, S1, As1, st1, R1, h1⟩
  exact h1 _ _ _ st1 R1
abbrev LW (X : Cx) (W : WX) (e : Expr) (f : Env → Res (Bool × Env)) : Prop := PW X e (liftT X.K X.mg W f)
theorem lw_and {ft fu : Env → Res (Bool × Env)} (ha : LT X W a ft) (hb : LW X W (.BoolOp .And (b :: es) pos) fu) : LW X W (.BoolOp .And (a :: b :: es) pos) (fun env => (ft env).bind fun r => match r.1 with
    | true => fu r.2
    | false => .ok (false, r.2)) := by
  refine PW.imp (pw_and ha hb) ?_
  rintro σ H Q ⟨env, S, As, R, h⟩
  refine liftT.mono (bindT Stp.refl R h) ?_
  rintro v H1 ⟨env1, S1, As1, st1, R1, h1⟩
  cases v with
  | true =>
    refine iteT (liftT.mono (bindT st1 R1 (Post.pass h1)) ?_)
    rintro w H2 ⟨env2, S2, As2, st2, R2, h2⟩
    exact h2 _ _ _ (st1.trans st2) R2
  | false => exact iteF (h1 _ _ _ st1 R1)
theorem lw_or {ft fu : Env → Res (Bool × Env)} (ha : LT X W a ft) (hb : LW X W (.BoolOp .Or (b :: es) pos) fu) : LW X W (.BoolOp .Or (a :: b :: es) pos) (fun env => (ft env).bind fun r => match r.1 with
    | true => .ok (true, r.2)
    | false => fu r.2) := by
  refine PW.imp (pw_or ha hb) ?_
  rintro σ H Q ⟨env, S, As, R, h⟩
  refine liftT.mono (bindT Stp.refl R h) ?_
  rintro v H1 ⟨env1, S1, As1, st1, R1, h1⟩
  cases v with
  | true => exact iteT (h1 _ _ _ st1 R1)
  | false =>
    refine iteF (liftT.mono (bindT st1 R1 (Post.pass h1)) ?_)
    rintro w H2 ⟨env2, S2, As2, st2, R2, h2⟩
    exact h2 _ _ _ (st1.trans st2) R2
theorem lw_and1 {ft : Env → Res (Bool × Env)} (ha : LT X W a ft) : LW X W (.BoolOp .And [a] pos) ft := pw_and1 ha
theorem lw_or1 {ft : Env → Res (Bool × Env)} (ha : LT X W a ft) : LW X W (.BoolOp .Or [a] pos) ft := pw_or1 ha
/-! ### argument lists, displays -/
theorem lts_nil : LTs X W [] (fun env => .ok ([], env)) := by
  refine PA.imp pa_nil ?_
  rintro σ H Q ⟨env, S, As, R, h⟩
  exact h [] H S As Stp.refl R Rps.nil
theorem lts_cons {fs : Env → Res (List PV × Env)} (ha : LE X W a fa) (hr : LTs X W es fs) (hs : starEach (a :: es) X.env = (false, eval a X.env) :: starEach es X.env) :
    LTs X W (a :: es) (fun env => (fa env).bind fun r => (optR (take r.1 r.2)).bind fun r => (fs r.2).bind fun q => .ok (r.1 :: q.1, q.2)) := by
  refine PA.imp (pa_cons ha hr hs) ?_
  rintro σ H Q ⟨env, S, As, R, h⟩
  refine liftE.mono (bindE Stp.refl R h) ?_
  rintro v H1 ⟨rv, env1, S1, As1, B1, st1, R1, ok1, fr1, h1⟩
  obtain ⟨⟨p, env1'⟩, e1, h1⟩ := h1.opt
  obtain ⟨S1', As1', R1', st1', rp, sm, _⟩ := take_ok R1 ok1 st1 fr1 e1
  refine liftTs.mono (bindTs st1' R1' h1) ?_
  rintro vs H2 ⟨ps, env2, S2, As2, st2, R2, rs, h2⟩
  exact h2 _ _ _ _ (st1'.trans st2) R2 (Rps.cons (Rp.mono st2.same _ _ rp) rs)
theorem lhs_nil : LHs X W [] (fun env => .ok ([], env)) := by
  refine PA.imp pa_nil ?_
  rintro σ H Q ⟨env, S, As, R, h⟩
  exact h [] H S As [] Stp.refl R ⟨rfl, rfl⟩ (fun b hb => by cases hb)
theorem lhs_cons {fs : Env → Res (List RV × Env)} (ha : LE X W a fa) (hr : LHs X W es fs) (hs : starEach (a :: es) X.env = (false, eval a X.env) :: starEach es X.env) :
    LHs X W (a :: es) (fun env => (fa env).bind fun r => (fs r.2).bind fun q => .ok (r.1 :: q.1, q.2)) := by
  refine PA.imp (pa_cons ha hr hs) ?_
  rintro σ H Q ⟨env, S, As, R, h⟩
  refine liftE.mono (bindE Stp.refl R h) ?_
  rintro v H1 ⟨rv, env1, S1, As1, B1, st1, R1, ok1, fr1, h1⟩
  refine liftHs.mono (bindHs st1 R1 h1) ?_
  rintro vs H2 ⟨rs, env2, S2, As2, B2, st2, R2, ok2, fr2, h2⟩
  refine h2 _ _ _ _ (B1 ++ B2) (st1.trans st2) R2 ⟨v, vs, B1, B2, rfl, rfl, ok1.stp st2, ok2, fun b hb hb2 => ?_⟩ fun b hb => ?_
  · obtain ⟨n1, n2, _⟩ := ok1.there b hb
    exact (fr2 b hb2).elim n1 n2
  · rcases List.mem_append.mp hb with hb | hb
    · exact fr1 b hb
    · exact st1.fresh (fr2 b hb)
theorem le_tup {fs : Env → Res (List PV × Env)} {kk : Nat} (h : LTs X W es fs) (hz : es.length ≤ 1000) (hl : ∀ env r, fs env = .ok r → r.1.length = es.length) : LE X W (.Tuple es kk pos) (fun env => (fs env).bind fun r => .ok (.val (.tup r.1), r.2)) := by
  refine PE.imp (pe_tup h) ?_
  rintro σ H Q ⟨env, S, As, R, h⟩
  have hlen : ∀ r, fs env = .ok r → r.1.length = es.length := hl env
  dsimp only at h
  have h' : Post X.K X.mg W H S As (fs env) (fun ps env1 => ps.length = es.length ∧ KE X.K X.mg σ H S As Q (.val (.tup ps)) env1) := by
    revert h hlen
    cases fs env with
    | ok r => exact fun h hlen => ⟨hlen r rfl, h⟩
    | exc C gs e => exact fun h _ => h
    | stuck => exact fun h _ => h
  refine ⟨env, S, As, R, h'.mono ?_⟩
  rintro ps env1 ⟨hlen, k⟩ vs H1 S1 As1 st1 R1 rs
  have hz2 : vs.length ≤ sizeLine := by rw [rs.length, hlen, sizeLine_eq]; omega
  exact ⟨hz2, fun p n => finVR (vr := .tup ps) st1 R1 (.inr ⟨p, vs, rfl, n, rfl, rs⟩) k⟩
theorem le_lst {fs : Env → Res (List PV × Env)} (h : LTs X W es fs) (hz : es.length ≤ 1000) (hl : ∀ env r, fs env = .ok r → r.1.length = es.length) : LE X W (.List es pos) (fun env => (fs env).bind fun r => .ok (.new (.lst r.1), r.2)) := by
  refine PE.imp (pe_lst h) ?_
  rintro σ H Q ⟨env, S, As, R, h⟩
  have hlen : ∀ r, fs env = .ok r → r.1.length = es.length := hl env
  dsimp only at h
  have h' : Post X.K X.mg W H S As (fs env) (fun ps env1 => ps.length = es.length ∧ KE X.K X.mg σ H S As Q (.new (.lst ps)) env1) := by
    revert h hlen
    cases fs env with
    | ok r => exact fun h hlen => ⟨hlen r rfl, h⟩
    | exc C gs e => exact fun h _ => h
    | stuck => exact fun h _ => h
  refine ⟨env, S, As, R, h'.mono ?_⟩
  rintro ps env1 ⟨hlen, k⟩ vs H1 S1 As1 st1 R1 rs
  have hz2 : vs.length ≤ sizeLine := by rw [rs.length, hlen, sizeLine_eq]; omega
  exact ⟨hz2, fun p n => finVR (vr := .lst ps) st1 R1 ⟨p, vs, rfl, n, rfl, rs⟩ k⟩
/-! ### items and slices -/
theorem CellsOk.length {K : PySem.W.Frag} {mg : Str → Option Value} {H S : Hp} : ∀ {cs : List Cell} {vs : List V} {Bs : List Addr}, CellsOk K mg H S vs cs Bs → vs.length = cs.length
  | [], vs, Bs, h => by unfold CellsOk at h; rw [h.1]; rfl
  | x :: xs, vs, Bs, h => by
    unfold CellsOk at h
    obtain ⟨_, r, _, _, rfl, _, _, g, _⟩ := h
    rw [List.length_cons, List.length_cons, CellsOk.length g]
/-- where a cell's part stands -/
theorem idxL {K : PySem.W.Frag} {mg : Str → Option Value} {H S : Hp} {v w : V} {c : Cell} {D : List Addr} {y : PV} {n : Nat} (hc : CellOk K mg H S v c D) (hy : Rp K mg H w y) (e : idxC c y = some (.inr n)) :
    ∃ cs u a vs i, c = .ls cs ∧ (∃ d, cs[n]? = some d) ∧ v = .ref a ∧ w = .int i ∧ H a = some (.lst vs) ∧ atI vs i = some u ∧ vs[n]? = some u := by
  cases c with
  | ls cs =>
    cases y with
    | int i =>
      unfold CellOk at hc
      obtain ⟨a, vs, Bs, rfl, h1, h2, h3, rfl⟩ := hc
      unfold idxC at e
      dsimp only at e
      cases e1 : ixN cs.length i with
      | none => rw [e1] at e; cases e
      | some m =>
        rw [e1] at e
        dsimp only at e
        cases e2 : cs[m]? with
        | none => rw [e2] at e; cases e
        | some d =>
          have hm : m = n := by
            rw [e2] at e
            cases d <;> cases e <;> rfl
          subst hm
          obtain ⟨u, B0, k1, _⟩ := h2.part e2
          exact ⟨cs, u, a, vs, i, rfl, ⟨d, e2⟩, rfl, rp_int hy, h1, by unfold atI; rw [h2.length, e1]; exact k1, k1⟩
    | _ => cases e
  | fz p => exact absurd e (by show (ixP p y).map Sum.inl ≠ _; cases ixP p y <;> (intro z; cases z))
  | lst p => exact absurd e (by show (ixP (.lst p) y).map Sum.inl ≠ _; cases ixP (.lst p) y <;> (intro z; cases z))
  | dct b p => exact absurd e (by show (ixP (.dct b p) y).map Sum.inl ≠ _; cases ixP (.dct b p) y <;> (intro z; cases z))
  | obj C fs => cases e
theorem idxV {K : PySem.W.Frag} {mg : Str → Option Value} {H S : Hp} {v w : V} {c : Cell} {D : List Addr} {y r : PV} (sub : Same S H) (hc : CellOk K mg H S v c D) (hy : Rp K mg H w y) (e : idxC c y = some (.inl r)) :
    ∃ z, Rp K mg S z r ∧ ∀ (Q : VK), Q z H → rIxA K v w H Q := by
  have key : ∀ p, flat c = true → c.pv = p → ixP p y = some r → ∃ z, Rp K mg S z r ∧ ∀ (Q : VK), Q z H → rIxA K v w H Q := fun p hf hp e => ix_ok sub (hp ▸ hc.rp1 sub hf) hy e
  cases c with
  | fz p =>
    have e : (ixP p y).map Sum.inl = some (Sum.inl r) := e
    cases q : ixP p y with
    | none => rw [q] at e; cases e
    | some z => rw [q] at e; cases e; exact key p rfl (by unfold Cell.pv; rfl) q
  | lst p =>
    have e : (ixP (.lst p) y).map Sum.inl = some (Sum.inl r) := e
    cases q : ixP (.lst p) y with
    | none => rw [q] at e; cases e
    | some z => rw [q] at e; cases e; exact key _ rfl (by unfold Cell.pv; rfl) q
  | dct b p =>
    have e : (ixP (.dct b p) y).map Sum.inl = some (Sum.inl r) := e
    cases q : ixP (.dct b p) y with
    | none => rw [q] at e; cases e
    | some z => rw [q] at e; cases e; exact key _ rfl (by unfold Cell.pv; rfl) q
  | obj C fs => cases e
  | ls cs =>
    cases y with
    | int i =>
      unfold CellOk at hc
      obtain ⟨a, vs, Bs, rfl, h1, h2, h3, rfl⟩ := hc
      unfold idxC at e
      dsimp only at e
      cases e1 : ixN cs.length i with
      | none => rw [e1] at e; cases e
      | some m =>
        rw [e1] at e
        dsimp only at e
        cases e2 : cs[m]? with
        | none => rw [e2] at e; cases e
        | some d =>
          rw [e2] at e
          cases d with
          | fz p =>
            cases e
            obtain ⟨u, B0, k1, k2, _⟩ := h2.part e2
            unfold CellOk at k2
            cases rp_int hy
            exact ⟨u, k2.1, fun Q q => .inl (.inl ⟨a, vs, i, u, rfl, rfl, SqL.of h1, by unfold atI; rw [h2.length, e1]; exact k1, q⟩)⟩
          | _ => cases e
    | _ => cases e
/-- a slot's thing is borrowed, a step further in -/
theorem borrow_ok {K : PySem.W.Frag} {mg : Str → Option Value} {H S H₀ S₀ : Hp} {As As₀ : Fp} {σ : SlotV} {env : Env} (R : Rel K mg σ env H S As) (st : Stp H₀ S₀ As₀ H S As) {j : Nat} {c d : Cell} {p : List PSt} {v w : V} (hσ : σ[j]? = some (some v)) (hg : get env j = some c) (hd : getC c p = some d) (ha : AtP H v p w) :
    ∃ As' B, Rel K mg σ (env.set j none) H S As' ∧ Stp H₀ S₀ As₀ H S As' ∧ RvOk K mg σ H S As' w (.brw j p c) B ∧ (∀ b ∈ B, H₀ b = none ∨ Own As₀ b) ∧ (∀ b, Own As' b → Own As b) ∧ ∀ b ∈ B, Own As b := by
  obtain ⟨u, e1, hc⟩ := R.cell j c hg
  obtain rfl : u = v := by simpa using e1.symm.trans hσ
  have hj : j < env.length := get_lt hg
  have R2 := R.chg (i := j) (v := u) (c := none) (B := []) (H' := H) (S' := S) hj R.sub (Same.refl _) (fun _ _ _ _ => rfl) (fun k b _ hb => R.free b ⟨k, hb⟩) rfl (fun b hb => by cases hb) (fun _ a r z => by cases z)
  rw [set_self hσ] at R2
  have ow : ∀ b, Own (updF As j []) b → Own As b := fun b ⟨k, hk⟩ => by
    by_cases q : k = j
    · subst q; rw [updF_same] at hk; cases hk
    · rw [updF_ne q] at hk; exact ⟨k, hk⟩
  refine ⟨_, As j, R2, ⟨st.same, st.fr, fun b hb => st.own b (ow b hb), st.new, st.root⟩, ⟨u, d, hσ, hc, hd, ha, fun b hb => ⟨fun ⟨k, hk⟩ => ?_, R.free b ⟨j, hb⟩⟩, fun z a r e => ?_⟩, fun b hb => (st.own b ⟨j, hb⟩).symm, ow, fun b hb => ⟨j, hb⟩⟩
  · by_cases q : k = j
    · subst q; rw [updF_same] at hk; cases hk
    · rw [updF_ne q] at hk; exact R.disj k j b q hk hb
  · subst z; exact R.anc a r e
theorem AtP.snoc {H : Hp} {n : Nat} {a : Addr} {vs : List V} {u : V} (h1 : H a = some (.lst vs)) (h2 : vs[n]? = some u) : ∀ {p : List PSt} {v : V}, AtP H v p (.ref a) → AtP H v (p ++ [.ix n]) u
  | [], v, h => ⟨a, vs, u, h, h1, h2, rfl⟩
  | .ix m :: p, v, ⟨a', vs', u', e, k1, k2, k3⟩ => ⟨a', vs', u', e, k1, k2, AtP.snoc h1 h2 k3⟩
  | .at f :: p, v, ⟨a', c', dx', vs', u', e, k1, k2, k3⟩ => ⟨a', c', dx', vs', u', e, k1, k2, AtP.snoc h1 h2 k3⟩
theorem AtP.snocF {H : Hp} {f : Str} {a c dx : Addr} {gs : List (Str × V)} {u : V} (h1 : H a = some (.ins c dx gs)) (h2 : gs.lookup f = some u) : ∀ {p : List PSt} {v : V}, AtP H v p (.ref a) → AtP H v (p ++ [.at f]) u
  | [], v, h => ⟨a, c, dx, gs, u, h, h1, h2, rfl⟩
  | .ix m :: p, v, ⟨a', vs', u', e, k1, k2, k3⟩ => ⟨a', vs', u', e, k1, k2, AtP.snocF h1 h2 k3⟩
  | .at f' :: p, v, ⟨a', c', dx', vs', u', e, k1, k2, k3⟩ => ⟨a', c', dx', vs', u', e, k1, k2, AtP.snocF h1 h2 k3⟩
theorem getC_snoc {q : PSt} {d e : Cell} : ∀ {p : List PSt} {c : Cell}, getC c p = some d → getC d [q] = some e → getC c (p ++ [q]) = some e
  | [], c, h, h2 => by unfold getC at h; cases h; exact h2
  | .ix n :: p, c, h, h2 => by
    cases c with
    | ls cs =>
      show getC (.ls cs) (.ix n :: (p ++ [q])) = _
      unfold getC at h ⊢
      cases e : cs[n]? with
      | none => rw [e] at h; cases h
      | some c0 => rw [e] at h; exact getC_snoc (p := p) h h2
    | _ => cases h
  | .at f :: p, c, h, h2 => by
    cases c with
    | obj C cs =>
      show getC (.obj C cs) (.at f :: (p ++ [q])) = _
      unfold getC at h ⊢
      cases e : cs.lookup f with
      | none => rw [e] at h; cases h
      | some c0 => rw [e] at h; exact getC_snoc (p := p) h h2
    | _ => cases h
theorem le_ix (hu : X.A.units + 65 < cLine) (ha : LE X W a fa) (hb : LE X W b fb) (hs : PlainIx b) : LE X W (.Subscript a b pos)
    (fun env => (fa env).bind fun r => (fb r.2).bind fun q => (optR (rdH q.2 q.1)).bind fun y => ixV r.1 y (unb q.1 q.2)) := by
  refine PE.imp (pe_ix (ix_any hu) ha hb hs) ?_
  rintro σ H Q ⟨env, S, As, R, h⟩
  refine liftE.mono (bindE Stp.refl R h) ?_
  rintro v H1 ⟨rv, env1, S1, As1, B1, st1, R1, ok1, fr1, h1⟩
  refine liftE.mono (bindE st1 R1 h1) ?_
  rintro w H2 ⟨rw, env2, S2, As2, B2, st2, R2, ok2, fr2, h2⟩
  obtain ⟨y, e1, h2⟩ := h2.opt
  have hy := R2.rdH ok2 e1
  obtain ⟨As3, R3, st3, o3⟩ := unb_ok R2 ok2 (st1.trans st2) fun b hb => st1.fresh (fr2 b hb)
  have ok1' : RvOk X.K X.mg σ H2 S2 As3 v rv B1 := (ok1.stp st2).own (st3.root.trans (st1.trans st2).root.symm) fun b hb z => by
    rcases o3 b z with z | z
    · exact ((ok1.stp st2).there b hb).2.1 z
    · exact (fr2 b z).elim (ok1.there b hb).1 (ok1.there b hb).2.1
  unfold ixV at h2
  split at h2
  · exact False.elim h2
  · rename_i c hc
    obtain ⟨D, hD⟩ := R3.vw ok1' hc
    split at h2
    · exact False.elim h2
    · rename_i r hr
      obtain ⟨z, z1, z2⟩ := idxV R3.sub hD hy hr
      exact z2 Q (finUP (rs := [rv]) st3 R3 (rvs1 ok1') (nil_fr fr1) z1 h2)
    · rename_i n hn
      obtain ⟨cs, u, a', vs, i, rfl, ⟨d, hd⟩, rfl, rfl, g1, g2, g3⟩ := idxL hD hy hn
      have gd : getC (.ls cs) [.ix n] = some d := by unfold getC; rw [hd]; unfold getC; rfl
      refine .inl (.inl ⟨a', vs, i, u, rfl, rfl, SqL.of g1, g2, ?_⟩)
      cases rv with
      | val q => exact False.elim h2
      | new q => exact False.elim h2
      | loc j =>
        obtain ⟨As4, B4, R4, st4, ok4, fr4, _⟩ := borrow_ok R3 st3 ok1'.1 hc gd ⟨a', vs, u, rfl, g1, g3, rfl⟩
        exact h2 u H2 S2 As4 B4 st4 R4 ok4 fr4
      | brw j p c0 =>
        obtain ⟨v0, d0, h0, k1, hg, k2, k3, k4⟩ := ok1'
        exact h2 u H2 S2 As3 B1 st3 R3 ⟨v0, d, h0, k1, getC_snoc hc gd, k2.snoc g1 g3, k3, k4⟩ fr1
end
end PL
set_option Elab.async false
set_option linter.all false
set_option maxRecDepth 100000
set_option maxHeartbeats 1000000
namespace PL
open PySem PySem.Spec PyProof.Rows L2
/-! ### min, max, sum of a tuple of ints -/
section
variable {prog : Program} {w : World} {A : Around} {E : Value → Shared → Prop} {s : Shared} {l : Addr} {its : List Value} {ns : List Int} {xs : Array (Int × Tok)}
theorem old_keptT {h' : Heap} {o : Obj} (hk : ∀ b u, b ∉ [s.heap.objs.size] → (s.heap.push o).get? b = some u → h'.get? b = some u) : ∀ b u, s.heap.get? b = some u → h'.get? b = some u := fun b u e => by
  refine hk b u (fun hm => ?_) (Heap.get?_push_of_some _ e)
  rcases List.mem_cons.mp hm with e1 | hm
  · exact absurd (e1 ▸ Heap.lt_size e) (Nat.lt_irrefl _)
  · cases hm
theorem fp_tup {a : Obj} (hl : s.heap.IsTuple l (intItems xs)) : ∀ b ∈ [s.heap.objs.size, l], b < (s.heap.push a).objs.size := fun b hb => by
  have hlt : l < s.heap.objs.size := by obtain ⟨_, e, _⟩ := hl; exact Heap.lt_size e
  rw [Heap.size_push]
  rcases List.mem_cons.mp hb with rfl | hb
  · exact Nat.lt_succ_self _
  · rcases List.mem_cons.mp hb with rfl | hb
    · exact Nat.lt_succ_of_lt hlt
    · cases hb
theorem min_intTup {Q : Value → Shared → Prop} (hh : A.handled = none) (hl : s.heap.IsTuple l (intItems xs)) (hne : 0 < xs.size)
    (h : ∀ v h' tk, (intItems xs)[argBest (fun i j => decide (numAt xs i < numAt xs j)) (xs.size - 1)]? = some v → (∀ b o, s.heap.get? b = some o → h'.get? b = some o) → Q v { s with heap := h', toks := tk }) :
    wpAny (model prog w) A (call (.builtin "min") [.ref l]) Q E s := by
  have hlt : l < s.heap.objs.size := by obtain ⟨_, e, _⟩ := hl; exact Heap.lt_size e
  refine call_min_walk (wpAny_pyIter_tuple hl ?_)
  refine ⟨_, _, _, _, _, _, _, rfl, Walks.tuple (A := A.in1) hh _ l (Nat.ne_of_lt hlt) (intItems xs), ⟨⟨_, Heap.get?_push_size _ rfl, rfl, rfl⟩, hl.push _⟩, fp_tup hl, by simpa [intItems] using hne, CmpOf.ints_lt (numAt xs) (fun _ _ => intItems_at), fun v h' tk hP hk => ?_⟩
  exact h v h' tk (by simpa [intItems] using hP) (old_keptT hk)
theorem max_intTup {Q : Value → Shared → Prop} (hh : A.handled = none) (hl : s.heap.IsTuple l (intItems xs)) (hne : 0 < xs.size)
    (h : ∀ v h' tk, (intItems xs)[argBest (fun i j => decide (numAt xs i > numAt xs j)) (xs.size - 1)]? = some v → (∀ b o, s.heap.get? b = some o → h'.get? b = some o) → Q v { s with heap := h', toks := tk }) :
    wpAny (model prog w) A (call (.builtin "max") [.ref l]) Q E s := by
  have hlt : l < s.heap.objs.size := by obtain ⟨_, e, _⟩ := hl; exact Heap.lt_size e
  refine call_max_walk (wpAny_pyIter_tuple hl ?_)
  refine ⟨_, _, _, _, _, _, _, rfl, Walks.tuple (A := A.in1) hh _ l (Nat.ne_of_lt hlt) (intItems xs), ⟨⟨_, Heap.get?_push_size _ rfl, rfl, rfl⟩, hl.push _⟩, fp_tup hl, by simpa [intItems] using hne, CmpOf.ints_gt (numAt xs) (fun _ _ => intItems_at), fun v h' tk hP hk => ?_⟩
  exact h v h' tk (by simpa [intItems] using hP) (old_keptT hk)
theorem mem_getDI {l : List Int} {a : Int} (h : a ∈ l) : ∃ j, j < l.length ∧ l.getD j 0 = a := by
  obtain ⟨j, hj, e⟩ := List.getElem_of_mem h
  exact ⟨j, hj, by rw [List.getD_eq_getElem?_getD, List.getElem?_eq_getElem hj]; exact e⟩
theorem min_tup {Q : Value → Shared → Prop} (hh : A.handled = none) (hl : s.heap.IsTuple l its.toArray) (hi : IntsAre its ns) (hne : 0 < ns.length)
    (h : ∀ h' tk M t', (∀ b o, s.heap.get? b = some o → h'.get? b = some o) → M ∈ ns → (∀ a, a ∈ ns → M ≤ a) → Q (.int M t') { s with heap := h', toks := tk }) : wpAny (model prog w) A (call (.builtin "min") [.ref l]) Q E s := by
  obtain ⟨xs, e⟩ := hi.allInts.items
  have hn : numsOf (intItems xs).toList = ns := by rw [← e]; exact hi.numsOf
  rw [nums_intItems] at hn
  subst hn
  rw [e] at hl
  have hsz : 0 < xs.size := by simpa using hne
  refine min_intTup hh hl hsz fun v h' tk hv hk => ?_
  obtain ⟨t, rfl⟩ := intItems_at hv
  obtain ⟨h1, h2⟩ := argBest_lt (numAt xs) (xs.size - 1)
  refine h h' tk _ t hk ?_ fun a ha => ?_
  · rw [numAt_eq]; exact PySem.getD_mem (by rw [List.length_map, Array.length_toList]; omega)
  · obtain ⟨j, hj, rfl⟩ := mem_getDI ha
    rw [List.length_map, Array.length_toList] at hj
    rw [← numAt_eq]; exact h2 j (by omega)
theorem max_tup {Q : Value → Shared → Prop} (hh : A.handled = none) (hl : s.heap.IsTuple l its.toArray) (hi : IntsAre its ns) (hne : 0 < ns.length)
    (h : ∀ h' tk M t', (∀ b o, s.heap.get? b = some o → h'.get? b = some o) → M ∈ ns → (∀ a, a ∈ ns → a ≤ M) → Q (.int M t') { s with heap := h', toks := tk }) : wpAny (model prog w) A (call (.builtin "max") [.ref l]) Q E s := by
  obtain ⟨xs, e⟩ := hi.allInts.items
  have hn : numsOf (intItems xs).toList = ns := by rw [← e]; exact hi.numsOf
  rw [nums_intItems] at hn
  subst hn
  rw [e] at hl
  have hsz : 0 < xs.size := by simpa using hne
  refine max_intTup hh hl hsz fun v h' tk hv hk => ?_
  obtain ⟨t, rfl⟩ := intItems_at hv
  obtain ⟨h1, h2⟩ := argBest_gt (numAt xs) (xs.size - 1)
  refine h h' tk _ t hk ?_ fun a ha => ?_
  · rw [numAt_eq]; exact PySem.getD_mem (by rw [List.length_map, Array.length_toList]; omega)
  · obtain ⟨j, hj, rfl⟩ := mem_getDI ha
    rw [List.length_map, Array.length_toList] at hj
    rw [← numAt_eq]; exact h2 j (by omega)
theorem sum_tup {Q : Value → Shared → Prop} (hh : A.handled = none) (hl : s.heap.IsTuple l its.toArray) (hi : IntsAre its ns)
    (h : ∀ h' tk t', (∀ b o, s.heap.get? b = some o → h'.get? b = some o) → Q (.int ns.sum t') { s with heap := h', toks := tk }) : wpAny (model prog w) A (call (.builtin "sum") [.ref l]) Q E s := by
  obtain ⟨xs, e⟩ := hi.allInts.items
  have hn : numsOf (intItems xs).toList = ns := by rw [← e]; exact hi.numsOf
  rw [nums_intItems] at hn
  rw [e] at hl
  refine PySem.W.ktm_sumG hh hl fun h' tk t' hk => ?_
  have := h h' tk t' hk
  rw [preSum_eq, List.take_of_length_le (by simp), hn]; exact this
end
section
variable {X : Cx}
def rMinT (K : PySem.W.Frag) : List V → Hp → VK → Prop := fun vs H Q => ∃ (a : Addr) (ns : List Int), vs = [V.ref a] ∧ SqT K H a (ns.map V.int) ∧ 0 < ns.length ∧ ∀ m, m ∈ ns → (∀ k, k ∈ ns → m ≤ k) → Q (.int m) H
def rMaxT (K : PySem.W.Frag) : List V → Hp → VK → Prop := fun vs H Q => ∃ (a : Addr) (ns : List Int), vs = [V.ref a] ∧ SqT K H a (ns.map V.int) ∧ 0 < ns.length ∧ ∀ m, m ∈ ns → (∀ k, k ∈ ns → k ≤ m) → Q (.int m) H
theorem cr_minT (hc : X.calm = true) : CallR X (.builtin "min") (rMinT X.K) := by
  intro pins s σ H vs us Q I r h
  obtain ⟨a, ns, rfl, hs, hne, q⟩ := h
  obtain ⟨its, rv, hl, _⟩ := I.tuple hs
  rw [Vals.ref1 r]
  exact min_tup (I.ok.hd hc) hl rv.ints hne fun h' tk m t' hk h1 h2 => ⟨.int _, H, I.kept hk, ⟨_, rfl⟩, q m h1 h2⟩
theorem cr_maxT (hc : X.calm = true) : CallR X (.builtin "max") (rMaxT X.K) := by
  intro pins s σ H vs us Q I r h
  obtain ⟨a, ns, rfl, hs, hne, q⟩ := h
  obtain ⟨its, rv, hl, _⟩ := I.tuple hs
  rw [Vals.ref1 r]
  exact max_tup (I.ok.hd hc) hl rv.ints hne fun h' tk m t' hk h1 h2 => ⟨.int _, H, I.kept hk, ⟨_, rfl⟩, q m h1 h2⟩
theorem cr_sumT (hc : X.calm = true) : CallR X (.builtin "sum") (fun vs H Q => ∃ (a : Addr) (ns : List Int), vs = [V.ref a] ∧ SqT X.K H a (ns.map V.int) ∧ Q (.int ns.sum) H) := by
  intro pins s σ H vs us Q I r h
  obtain ⟨a, ns, rfl, hs, q⟩ := h
  obtain ⟨its, rv, hl, _⟩ := I.tuple hs
  rw [Vals.ref1 r]
  exact sum_tup (I.ok.hd hc) hl rv.ints fun h' tk t' hk => ⟨.int _, H, I.kept hk, ⟨_, rfl⟩, q⟩
end
end PL
set_option Elab.async false
set_option linter.all false
set_option maxRecDepth 100000
set_option maxHeartbeats 1000000
namespace SrtO
open PySem PySem.Spec PyProof.Rows
/-! ### rows of ints in their order -/
def lexL : List Int → List Int → Bool
  | [], [] => false
  | [], _ :: _ => true
  | _ :: _, [] => false
  | x :: xs, y :: ys => if x = y then lexL xs ys else decide (x < y)
theorem lexL_refl : ∀ x : List Int, lexL x x = false
  | [] => rfl
  | x :: xs => by unfold lexL; rw [if_pos rfl]; exact lexL_refl xs
theorem lexL_asymm : ∀ {x y : List Int}, lexL x y = true → lexL y x = false
  | [], [], h => by cases h
  | [], y :: ys, h => rfl
  | x :: xs, [], h => by cases h
  | x :: xs, y :: ys, h => by
    unfold lexL at h ⊢
    by_cases e : x = y
    · rw [if_pos e] at h; rw [if_pos e.symm]; exact lexL_asymm h
    · rw [if_neg e] at h; rw [if_neg (Ne.symm e)]
      have := of_decide_eq_true h
      exact decide_eq_false (by omega)
theorem lexL_le : ∀ {x y z : List Int}, lexL y x = false → lexL z y = false → lexL z x = false
  | [], y, [], _, _ => rfl
  | [], [], z :: zs, _, _ => rfl
  | [], y :: ys, z :: zs, _, _ => rfl
  | x :: xs, [], z, h, _ => by cases h
  | x :: xs, y :: ys, [], _, h => by cases h
  | x :: xs, y :: ys, z :: zs, h1, h2 => by
    unfold lexL at h1 h2 ⊢
    by_cases e1 : y = x
    · rw [if_pos e1] at h1
      subst e1
      by_cases e2 : z = y
      · rw [if_pos e2] at h2 ⊢; exact lexL_le h1 h2
      · rw [if_neg e2] at h2 ⊢; exact h2
    · rw [if_neg e1] at h1
      have a := of_decide_eq_false h1
      by_cases e2 : z = y
      · subst e2
        rw [if_neg e1]; exact h1
      · rw [if_neg e2] at h2
        have b := of_decide_eq_false h2
        have e3 : ¬ z = x := by omega
        rw [if_neg e3]
        exact decide_eq_false (by omega)
theorem lexL_eq : ∀ {x y : List Int}, lexL x y = false → lexL y x = false → x = y
  | [], [], _, _ => rfl
  | [], y :: ys, h, _ => by cases h
  | x :: xs, [], _, h => by cases h
  | x :: xs, y :: ys, h1, h2 => by
    unfold lexL at h1 h2
    by_cases e : x = y
    · rw [if_pos e] at h1; rw [if_pos e.symm] at h2
      rw [e, lexL_eq h1 h2]
    · rw [if_neg e] at h1; rw [if_neg (Ne.symm e)] at h2
      have a := of_decide_eq_false h1
      have b := of_decide_eq_false h2
      omega
theorem swo_rows {α : Type} (k : α → List Int) : Swo fun v u => lexL (k v) (k u) :=
  ⟨fun x y h => lexL_asymm h, fun x y z h1 h2 => lexL_le h1 h2⟩
/-- a tuple of ints -/
def IsRow (h : Heap) (v : Value) (ns : List Int) : Prop := ∃ a o its n, v = .ref a ∧ h.get? a = some o ∧ o.cls = .type "tuple" ∧ o.data = .seq its n ∧ IntsAre its.toList ns
theorem IsRow.keeps {h h' : Heap} {v : Value} {ns : List Int} (x : IsRow h v ns) (kp : ∀ b o, h.get? b = some o → o.cls = .type "tuple" → h'.get? b = some o) : IsRow h' v ns := by
  obtain ⟨a, o, its, n, e, ho, hc, hd, hi⟩ := x
  exact ⟨a, o, its, n, e, kp a o ho hc, hc, hd, hi⟩
section
variable {prog : Program} {w : World} {A : Around} {E : Value → Shared → Prop} {s : Shared}
theorem row_lex {c : Bool} : ∀ {us vs : List Value} {ns ms : List Int} (i : Nat), IntsAre us ns → IntsAre vs ms →
    PySem.W.KatLex prog w A c (decide (us.length < vs.length)) (fun r s' => s' = s ∧ r = lexL ns ms) (us.zip vs) i s
  | [], [], _, _, i, .nil, .nil => PySem.W.kat_nil ⟨rfl, rfl⟩
  | [], _ :: _, _, _, i, .nil, .cons _ _ _ => PySem.W.kat_nil ⟨rfl, rfl⟩
  | _ :: _, [], _, _, i, .cons _ _ _, .nil => PySem.W.kat_nil ⟨rfl, rfl⟩
  | _ :: _, _ :: _, _, _, i, @IntsAre.cons x t us ns h1, @IntsAre.cons y u vs ms h2 => by
    have e : decide ((Value.int x t :: us).length < (Value.int y u :: vs).length) = decide (us.length < vs.length) := by simp
    rw [e]
    refine PySem.W.kat_cons (SeqAt.EqAt.int_int x t y u prog w _ _ ?_)
    refine PySem.W.kat_go (fun e1 => ?_) (fun e1 => ?_)
    · have ex : x = y := by simpa using e1
      refine PySem.W.kat_yes ?_
      unfold lexL
      rw [if_pos ex]
      exact row_lex (i + 1) h1 h2
    · have ex : ¬ x = y := by simpa using e1
      unfold lexL
      rw [if_neg ex]
      refine PySem.W.kat_no ?_
      cases hb : (c && i == 0) with
      | true => exact oneLt_int ⟨rfl, rfl⟩
      | false => exact PySem.W.kat_one _ _ (PyProof.Rows.lt_int (show s = s ∧ decide (x < y) = decide (x < y) from ⟨rfl, rfl⟩))
theorem row_cmp {vs : List Value} {k : Value → List Int} (hp : ∀ v ∈ vs, IsRow s.heap v (k v)) : Cmp prog w A s (tuples' true) (fun p => p.1 ∈ vs) (lt2 fun v u => lexL (k v) (k u)) := by
  intro p q hm hm'
  have h1 := hp _ hm
  have h2 := hp _ hm'
  show wpAny (model prog w) A (keyLt' (tuples' true) p.1 q.1) (fun r s' => s' = s ∧ r = lexL (k p.1) (k q.1)) (fun _ _ => False) s
  obtain ⟨a, o, its, n, e, ho, hc, hd, hi⟩ := h1
  obtain ⟨a', o', its', n', e', ho', hc', hd', hi'⟩ := h2
  generalize k p.1 = x at hi ⊢
  generalize k q.1 = x' at hi' ⊢
  rw [e, e']
  refine PySem.W.kat_lt ho hd ho' hd' ?_
  have := row_lex (prog := prog) (w := w) (A := A) (s := s) (c := true) 0 hi hi'
  rw [Array.length_toList, Array.length_toList] at this
  exact this
theorem firsts_rows {h : Heap} : ∀ {vs : List Value}, (∀ v ∈ vs, ∃ ns, IsRow h v ns ∧ ns ≠ []) → ∃ fs, PySem.W.KatTups h vs fs ∧ fs.length = vs.length ∧ ∀ f ∈ fs, ∃ n t, f = Value.int n t
  | [], _ => ⟨[], PySem.W.KatTups.nil, rfl, fun f hf => by cases hf⟩
  | v :: vs, h => by
    obtain ⟨fs, h1, h2, h3⟩ := firsts_rows (vs := vs) fun u hu => h u (List.mem_cons_of_mem _ hu)
    obtain ⟨ns, ⟨a, o, its, n, rfl, ho, hc, hd, hi⟩, hne⟩ := h v List.mem_cons_self
    obtain ⟨f, t, ft, hl⟩ : ∃ x t r, its.toList = Value.int x t :: r := by
      generalize its.toList = l at hi
      cases hi with
      | nil => exact absurd rfl hne
      | cons x t r => exact ⟨x, t, _, rfl⟩
    have h0 : its[0]? = some (Value.int f t) := by
      rw [← Array.getElem?_toList, hl]; rfl
    refine ⟨Value.int f t :: fs, PySem.W.KatTups.cons ho hc hd h0 h1, by rw [List.length_cons, List.length_cons, h2], fun g hg => ?_⟩
    rcases List.mem_cons.mp hg with rfl | hg
    · exact ⟨_, _, rfl⟩
    · exact h3 g hg
theorem rows_sortable {a : Addr} {vs : List Value} {k : Value → List Int} (h0 : 0 < vs.length) (hp : ∀ v ∈ vs, IsRow s.heap v (k v) ∧ k v ≠ []) (ha : ∀ o, s.heap.get? a = some o → o.cls ≠ .type "tuple") : SortableO prog w A s a vs fun v u => lexL (k v) (k u) := by
  intro h' keep
  have hp' : ∀ v ∈ vs, IsRow h' v (k v) := fun v hm => (hp v hm).1.keeps fun b o e c => keep b o (fun z => by subst z; exact ha o e c) e
  obtain ⟨fs, h1, h2, h3⟩ := firsts_rows fun v hm => ⟨_, hp' v hm, (hp v hm).2⟩
  refine ⟨tuples' true, fun Q E hq => ?_, row_cmp hp'⟩
  refine PySem.W.kat_kind (T := .type "int") h1 (by omega) (fun f hm => ?_) (by rfl) ?_
  · obtain ⟨x, t, rfl⟩ := h3 f hm
    exact PySem.W.Looks.now
  · have e : (Value.type "int" != Value.type "tuple") = true := by first | decide +kernel | rfl | decide
    rw [e]
    exact hq
/-- sorted of what is collected -/
theorem sorted_col {l : Value} {C : List Value → Prop} {Q : Value → Shared → Prop}
    (hcol : ∀ R : List Value → Shared → Prop, (∀ (vs : List Value) (h' : Heap) (tk : Nat), C vs → vs.length ≤ sizeLine → (∀ b o, s.heap.get? b = some o → h'.get? b = some o) → R vs { s with heap := h', toks := tk }) → wpAny (model prog w) A.in1 (collect l) R E s)
    (hS : ∀ vs, C vs → ∃ ltv, Swo ltv ∧ (2 ≤ vs.length → ∀ (h₁ : Heap) (tk : Nat) (a : Addr), h₁.get? a = some (seqObj "list" vs.toArray 0) → (∀ b o, s.heap.get? b = some o → h₁.get? b = some o) → SortableO prog w A.in1.in1 { s with heap := h₁, toks := tk } a vs ltv) ∧
      ∀ (out : List Value) (h₁ h' : Heap) (tk : Nat), Srtd ltv out → Stb ltv out vs → vs.length ≤ sizeLine → (∀ b o, s.heap.get? b = some o → h₁.get? b = some o) → (∀ b o, h₁.get? b = some o → h'.get? b = some o) → (∃ n, h'.get? h₁.objs.size = some (seqObj "list" out.toArray n)) → Q (.ref h₁.objs.size) { s with heap := h', toks := tk }) :
    wpAny (model prog w) A (call (.builtin "sorted") [l]) Q E s := by
  refine Calls.call_function_entry kind_sorted plain_sorted entry_sorted (args_sorted1 _) ?_
  unfold Builtin.«sorted»
  refine wpAny_bind (m := checkCount "sorted" 1 1 _) (wpAny_pure ?_)
  refine wpAny_bind (hcol _ fun vs h' tk hC hz hk => ?_)
  obtain ⟨ltv, O, hS, h⟩ := hS vs hC
  refine wpAny_bind (wpAny_newList ?_ hz)
  have hoL : (h'.push (seqObj "list" vs.toArray 0)).get? h'.objs.size = some (seqObj "list" vs.toArray 0) := Heap.get?_push_size _ rfl
  have keep : ∀ b o, s.heap.get? b = some o → (h'.push (seqObj "list" vs.toArray 0)).get? b = some o := fun b o q => Heap.get?_push_of_some _ (hk b o q)
  show wpAny _ _ _ _ _ { s with heap := h'.push (seqObj "list" vs.toArray 0), toks := tk }
  refine wpAny_bind (wpAny_holding (wpAny_call_entry slot_list_sort ⟨_, hoL, rfl⟩ entry_list_sort (list_sort_ord (s := { s with heap := h'.push (seqObj "list" vs.toArray 0), toks := tk }) O hoL hz (fun h2 => hS h2 _ _ _ hoL keep) fun out hs hb => ⟨_, rfl, ?_⟩) (args_list_sort _)))
  refine wpAny_pure ⟨_, rfl, h out _ _ _ hs hb hz hk (fun b o e => ?_) (PyProof.Rows.sortedHeap_at (vs := vs) (out := out.toArray) hoL)⟩
  have hb' : b ≠ h'.objs.size := fun z => by
    have := Heap.lt_size e
    rw [z] at this
    exact Nat.lt_irrefl _ this
  exact (PyProof.Rows.sortedHeap_old hb' (Heap.lt_size (Heap.get?_push_of_some _ e))).trans (Heap.get?_push_of_some _ e)
end
end SrtO

namespace PL
open PySem PySem.Spec PyProof.Rows L2
/-- what is sorted: the items that may be found -/
def SrcV (K : PySem.W.Frag) (H : Hp) (src : V) (C : List V → Prop) : Prop :=
  (∃ a xs, src = .ref a ∧ SqL K H a xs ∧ C xs) ∨ (∃ a xs, src = .ref a ∧ SqT K H a xs ∧ C xs) ∨ (∃ a ks, src = .ref a ∧ Rd H a (.dK ks) ∧ C (ks.map fun p => kV p.1)) ∨ ∃ a ks, src = .ref a ∧ Rd H a (.dT ks) ∧ ∀ bs, IsKeys H ks bs → C (bs.map V.ref)
def SrtV (H : Hp) (Q : VK) (xs : List V) : Prop :=
  (∃ ns : List Int, xs = ns.map V.int ∧ ∀ (ns' : List Int) p, ns'.Perm ns → ns'.Pairwise (· ≤ ·) → H p = none → Q (.ref p) (upd H p (.lst (ns'.map V.int)))) ∨
  ∃ k : V → List Int, (∀ x ∈ xs, ∃ t, x = .ref t ∧ H t = some (.tup ((k x).map V.int)) ∧ k x ≠ []) ∧
    ∀ ys p, SrtO.Srtd (fun x y => SrtO.lexL (k x) (k y)) ys → SrtO.Stb (fun x y => SrtO.lexL (k x) (k y)) ys xs → H p = none → Q (.ref p) (upd H p (.lst ys))
section
variable {X : Cx}
theorem vals_at : ∀ {xs : List V} {us : List Value}, xs.length = us.length → (∀ (j : Nat) (x : V) (u : Value), xs[j]? = some x → us[j]? = some u → RelV x u) → Vals xs us
  | [], [], _, _ => .nil
  | x :: xs, u :: us, hl, h => .cons (h 0 x u rfl rfl) (vals_at (by simpa using hl) fun j y w e1 e2 => h (j + 1) y w (by simpa using e1) (by simpa using e2))
theorem ints_of_row {xs : List Int} {us : List Value} (h : Vals (xs.map V.int) us) : IntsAre us xs := h.ints
theorem cr_srt (hc : X.calm = true) : CallR X (.builtin "sorted") (fun vs H Q => ∃ src, vs = [src] ∧ SrcV X.K H src (SrtV H Q)) := by
  intro pins s σ H vs us Q I r h
  obtain ⟨src, rfl, h⟩ := h
  have hd := I.ok.hd hc
  -- the end, whatever was collected
  have fin : ∀ {xs : List V} {vs : List Value}, Vals xs vs → SrtV H Q xs → ∃ ltv, SrtO.Swo ltv ∧ (2 ≤ vs.length → ∀ (h₁ : Heap) (tk : Nat) (a : Addr), h₁.get? a = some (seqObj "list" vs.toArray 0) → (∀ b o, s.heap.get? b = some o → h₁.get? b = some o) → SrtO.SortableO X.prog X.w X.A.in1.in1 { s with heap := h₁, toks := tk } a vs ltv) ∧
      ∀ (out : List Value) (h₁ h' : Heap) (tk : Nat), SrtO.Srtd ltv out → SrtO.Stb ltv out vs → vs.length ≤ sizeLine → (∀ b o, s.heap.get? b = some o → h₁.get? b = some o) → (∀ b o, h₁.get? b = some o → h'.get? b = some o) → (∃ n, h'.get? h₁.objs.size = some (seqObj "list" out.toArray n)) → EP X pins σ Q (.ref h₁.objs.size) { s with heap := h', toks := tk } := by
    intro xs vs rv hs
    rcases hs with ⟨ns, rfl, q⟩ | ⟨k, hx, q⟩
    · have hi := rv.ints
      refine ⟨_, SrtO.swo_int, fun h2 h₁ tk a _ _ => SrtO.ints_sortable hi h2, fun out h₁ h' tk k1 k2 hz kp kp2 he => ?_⟩
      obtain ⟨m1, m2, m3⟩ := SrtO.ints_out hi k1 k2
      obtain ⟨n, he⟩ := he
      have I1 : Inv X pins σ H { s with heap := h₁, toks := tk } := I.kept (t' := tk) kp
      have hlen : ((out.map SrtO.iv).map V.int).length ≤ sizeLine := by
        rw [List.length_map, m2.length_eq, ← hi.length]; exact hz
      exact ⟨.ref _, upd H h₁.objs.size (.lst ((out.map SrtO.iv).map V.int)), I1.laid (t' := tk) kp2 (Nat.le_refl _) ⟨hlen, out, n, vals_of_ints m1, he⟩, rfl, q _ _ m2 m3 (I1.hok.fresh (Nat.le_refl _))⟩
    · obtain ⟨e1, e2⟩ := refs_back rv fun x m => by
        obtain ⟨t, e, _⟩ := hx x m
        exact ⟨t, e⟩
      have hrow : ∀ {h₁ : Heap}, (∀ b o, s.heap.get? b = some o → h₁.get? b = some o) → ∀ v ∈ vs, SrtO.IsRow h₁ v (k (backV v)) ∧ k (backV v) ≠ [] := fun {h₁} kp v hv => by
        obtain ⟨t, rfl⟩ := e2 v hv
        have hm : V.ref t ∈ xs := by rw [e1]; exact List.mem_map.mpr ⟨_, hv, rfl⟩
        obtain ⟨t', e, ht, hne⟩ := hx _ hm
        cases e
        obtain ⟨_, its2, r2, o, ho, hcl, n, hdd⟩ := I.hok _ _ ht
        refine ⟨⟨t, o, its2.toArray, n, rfl, kp _ _ ho, hcl, hdd, ?_⟩, hne⟩
        have ri := r2.ints
        rw [show its2.toArray.toList = its2 by simp]
        exact ri
      refine ⟨_, SrtO.swo_rows fun v => k (backV v), fun h2 h₁ tk a ha kp => SrtO.rows_sortable (s := { s with heap := h₁, toks := tk }) (by omega) (hrow kp) fun o e => ?_, fun out h₁ h' tk k1 k2 hz kp kp2 he => ?_⟩
      · have e' : some o = some (seqObj "list" vs.toArray 0) := e.symm.trans ha
        cases e'
        intro c
        exact absurd (Value.type.inj c) (by decide)
      · obtain ⟨n, he⟩ := he
        have h3 : ∀ u ∈ out, ∃ a, u = Value.ref a := fun u hu => e2 u (k2.perm.mem_iff.mp hu)
        have hb : SrtO.Stb (fun x y => SrtO.lexL (k x) (k y)) (out.map backV) xs := by
          rw [e1]
          exact SrtO.Stb.map (SrtO.swo_rows k) backV k2
        have I1 : Inv X pins σ H { s with heap := h₁, toks := tk } := I.kept (t' := tk) kp
        refine ⟨.ref _, upd H h₁.objs.size (.lst (out.map backV)), I1.laid (t' := tk) kp2 (Nat.le_refl _) ⟨?_, out, n, vals_back h3, he⟩, rfl, q _ _ (SrtO.srtd_map k1) hb (I1.hok.fresh (Nat.le_refl _))⟩
        rw [List.length_map, k2.len]
        exact hz
  rcases h with ⟨a, xs, rfl, hs, hC⟩ | ⟨a, xs, rfl, hs, hC⟩ | ⟨a, ks, rfl, hs, hC⟩ | ⟨a, ks, rfl, hs, hC⟩
  · obtain ⟨its, rv, ⟨o, n, ho, hcl, hdd, hsl⟩, hz⟩ := I.list hs
    rw [Vals.ref1 r]
    refine SrtO.sorted_col (C := fun vs => vs = its) (fun R hR => wpAny_collect_seq a (.inl rfl) ho hcl hsl (fun h' hk => ?_) (by rw [List.size_toArray, ← rv.length]; exact hz)) (fun vs e => by subst e; exact fin rv hC)
    have := hR its h' s.toks rfl (by rw [← rv.length]; exact hz) hk
    simpa using this
  · obtain ⟨its, rv, ⟨o, ho, hcl, n, hdd⟩, hz⟩ := I.tuple hs
    rw [Vals.ref1 r]
    refine SrtO.sorted_col (C := fun vs => vs = its) (fun R hR => wpAny_collect_seq a (.inr rfl) ho hcl hdd (fun h' hk => ?_) (by rw [List.size_toArray, ← rv.length]; exact hz)) (fun vs e => by subst e; exact fin rv hC)
    have := hR its h' s.toks rfl (by rw [← rv.length]; exact hz) hk
    simpa using this
  · obtain ⟨z, hsm, vs, rel, dd⟩ := dk_rd I.hok hs
    obtain ⟨ep, hat⟩ := dd.dictAt
    have l1 : ks.length = vs.length := rel.length
    rw [Vals.ref1 r]
    refine SrtO.sorted_col (C := fun us => Vals (ks.map fun p => kV p.1) us) (fun R hR => PySem.W.kdu_collect (PySem.W.kdl_dict (knd := mixKind X.prog X.w) (ep := ep) hsm) hd hat (by omega) fun h' tk acc hk hit => ?_) (fun us e => fin e hC)
    have hl : acc.toList.length = vs.length := by rw [Array.length_toList]; exact hit.1
    refine hR acc.toList h' tk (vals_at (by rw [List.length_map, hl, l1]) fun j x u hx hu => ?_) (by omega) hk
    obtain ⟨k, v, e1, e2⟩ := hit.2 j u (by rw [← Array.getElem?_toList]; exact hu)
    rw [List.getElem?_map] at hx
    cases hk2 : ks[j]? with
    | none => rw [hk2] at hx; cases hx
    | some p =>
      rw [hk2] at hx
      cases hx
      obtain ⟨w', e3, _⟩ := kv_get rel hk2
      rw [e3] at e1
      cases e1
      exact relV_key e2
  · obtain ⟨z, hsm, ks2, pr, o, es, ep, ho, hx, hdt, he, hn⟩ := (show ObjOk X.prog X.w H s.heap a (.dT ks) from hs.ok I.hok)
    have l1 : es.size = ks2.length := size_of_entries he
    have l2 : ks.length = ks2.length := Paired.length pr
    rw [Vals.ref1 r]
    refine SrtO.sorted_col (C := fun us => us = (ks2.map fun x => x.2.1).map Value.ref) (fun R hR => PySem.W.kdu_collect (kdl_raw hsm hx hdt) hd ho (by omega) fun h' tk acc hk hit => ?_) (fun us e => by
      subst e
      exact fin (vals_refs _) (hC _ (isKeys_of pr)))
    have hl : acc.toList.length = ks2.length := by rw [Array.length_toList, hit.1]; exact l1
    refine hR acc.toList h' tk ?_ (by omega) hk
    apply List.ext_getElem?
    intro j
    rw [List.getElem?_map, List.getElem?_map]
    cases hj : acc.toList[j]? with
    | none =>
      have h1 := List.getElem?_eq_none_iff.mp hj
      rw [List.getElem?_eq_none (by omega)]
      all_goals rfl
    | some v =>
      obtain ⟨en, hen, hv⟩ := hit.2 j v (by rw [← Array.getElem?_toList]; exact hj)
      have qe := entry_at he j
      rw [hen] at qe
      cases hb : ks2[j]? with
      | none =>
        rw [hb] at qe
        exact nomatch (show some en = none from qe)
      | some b =>
        rw [hb] at qe
        have e2 : en = entryOfKey (tupleKind (mixKind X.prog X.w)) b := Option.some.inj qe
        rw [hv, e2]
        all_goals rfl
end
end PL
set_option Elab.async false
set_option linter.all false
set_option maxRecDepth 100000
set_option maxHeartbeats 1000000
namespace PL
open PySem PySem.Spec PyProof.Rows L2
/-! ### built-in functions, by plain values -/
def Rp1s (K : PySem.W.Frag) (mg : Str → Option Value) (H S : Hp) : List V → List PV → Prop
  | vs, [] => vs = []
  | vs, p :: ps => ∃ v r, vs = v :: r ∧ Rp1 K mg H S v p ∧ Rp1s K mg H S r ps
/-- a built-in function that only looks, one whose result has the parts -/
def rBl (K : PySem.W.Frag) (mg : Str → Option Value) (f : Str) : List V → Hp → VK → Prop := fun vs H Q => ∃ S ps vr, Same S H ∧ (if isK f = true then Rp1s K mg H S vs ps else Rps K mg H vs ps) ∧ (if isK f = true then bltK f ps else bltH f ps) = some vr ∧ ∀ z H', VRok K mg H S vr z H' → Q z H'
section
variable {K : PySem.W.Frag} {mg : Str → Option Value} {H S : Hp} {As : Fp} {σ : SlotV} {env : Env}
theorem rds_ok (R : Rel K mg σ env H S As) : ∀ {rs : List RV} {vs : List V} {B : List Addr} {ps : List PV}, RvsOk K mg σ H S As vs rs B → rdsB rd env rs = some ps → Rp1s K mg H S vs ps
  | [], vs, B, ps, h, e => by cases e; exact h.1
  | r :: rs, vs, B, ps, h, e => by
    obtain ⟨v, vs', B1, B2, rfl, rfl, h3, h4, h5⟩ := h
    unfold rdsB at e
    split at e
    · rename_i p ps' e1 e2
      cases e
      exact ⟨v, vs', rfl, R.rd h3 e1, rds_ok R h4 e2⟩
    · cases e
theorem rdsH_ok (R : Rel K mg σ env H S As) : ∀ {rs : List RV} {vs : List V} {B : List Addr} {ps : List PV}, RvsOk K mg σ H S As vs rs B → rdsB rdH env rs = some ps → Rps K mg H vs ps
  | [], vs, B, ps, h, e => by cases e; unfold Rps; exact h.1
  | r :: rs, vs, B, ps, h, e => by
    obtain ⟨v, vs', B1, B2, rfl, rfl, h3, h4, h5⟩ := h
    unfold rdsB at e
    split at e
    · rename_i p ps' e1 e2
      cases e
      exact Rps.cons (R.rdH h3 e1) (rdsH_ok R h4 e2)
    · cases e
theorem rp1s_one {vs : List V} {p : PV} (h : Rp1s K mg H S vs [p]) : ∃ v, vs = [v] ∧ Rp1 K mg H S v p := by
  obtain ⟨v, r, rfl, h1, h2⟩ := h
  obtain rfl : r = [] := h2
  exact ⟨v, rfl, h1⟩
theorem rps_one {vs : List V} {p : PV} (h : Rps K mg H vs [p]) : ∃ v, vs = [v] ∧ Rp K mg H v p := by
  obtain ⟨v, r, rfl, h1, h2⟩ := h.uncons
  have : r = [] := by unfold Rps at h2; exact h2
  subst this
  exact ⟨v, rfl, h1⟩
theorem rps_two {vs : List V} {p q : PV} (h : Rps K mg H vs [p, q]) : ∃ v w, vs = [v, w] ∧ Rp K mg H v p ∧ Rp K mg H w q := by
  obtain ⟨v, r, rfl, h1, h2⟩ := h.uncons
  obtain ⟨w, rfl, h3⟩ := rps_one h2
  exact ⟨v, w, rfl, h1, h3⟩
end
theorem bltH_len (ps : List PV) : bltH "len" ps = (match ps with | [p] => (lenP p).map fun n => VR.sc (.int n) | _ => none) := by
  unfold bltH
  rfl
theorem bltH_abs (ps : List PV) : bltH "abs" ps = (match ps with | [.int i] => some (VR.sc (.int (if i < 0 then -i else i))) | _ => none) := by
  unfold bltH
  rfl
theorem bltH_min (ps : List PV) : bltH "min" ps = (match ps with
    | [.int i, .int j] => some (VR.sc (.int (if j < i then j else i)))
    | [.lst xs] => match asInts xs with
      | some (n :: ns) => some (.sc (.int (ns.foldl min n)))
      | _ => none
    | [.tup xs] => match asInts xs with
      | some (n :: ns) => some (.sc (.int (ns.foldl min n)))
      | _ => none
    | _ => none) := by
  unfold bltH
  rfl
theorem bltH_max (ps : List PV) : bltH "max" ps = (match ps with
    | [.int i, .int j] => some (VR.sc (.int (if j > i then j else i)))
    | [.lst xs] => match asInts xs with
      | some (n :: ns) => some (.sc (.int (ns.foldl max n)))
      | _ => none
    | [.tup xs] => match asInts xs with
      | some (n :: ns) => some (.sc (.int (ns.foldl max n)))
      | _ => none
    | _ => none) := by
  unfold bltH
  rfl
theorem bltH_sum (ps : List PV) : bltH "sum" ps = (match ps with | [.lst xs] => (asInts xs).map fun ns => VR.sc (.int ns.sum) | [.tup xs] => (asInts xs).map fun ns => VR.sc (.int ns.sum) | _ => none) := by
  unfold bltH
  rfl
theorem bltH_all (ps : List PV) : bltH "all" ps = (match ps with | [.lst xs] => (asBls xs).map fun ns => VR.sc (.bl (ns.all id)) | _ => none) := by
  unfold bltH
  rfl
theorem bltH_any (ps : List PV) : bltH "any" ps = (match ps with | [.lst xs] => (asBls xs).map fun ns => VR.sc (.bl (ns.any id)) | _ => none) := by
  unfold bltH
  rfl
theorem bltH_int (ps : List PV) : bltH "int" ps = (match ps with | [.int i] => some (VR.sc (.int i)) | [.bl b] => some (.sc (.int (if b = true then 1 else 0))) | _ => none) := by
  unfold bltH
  rfl
theorem bltH_isi (ps : List PV) : bltH "isinstance" ps = (match ps with | [p, .ty T] => (isiP p T).map fun b => VR.sc (.bl b) | _ => none) := by
  unfold bltH
  rfl
theorem bltK_tuple (ps : List PV) : bltK "tuple" ps = (match ps with
    | [.lst xs] => some (VR.tup xs)
    | [.tup xs] => some (.sc (.tup xs))
    | _ => none) := by
  unfold bltK
  rfl
theorem bltK_list (ps : List PV) : bltK "list" ps = (match ps with
    | [.lst xs] => some (VR.lst xs)
    | [.tup xs] => some (.lst xs)
    | [.scr xs] => some (.lst (xs.map .int))
    | _ => none) := by
  unfold bltK
  rfl
theorem foldl_min_mem : ∀ (ns : List Int) (n : Int), ns.foldl min n ∈ n :: ns
  | [], n => List.mem_cons_self
  | m :: ns, n => by
    rw [List.foldl_cons]
    have h := foldl_min_mem ns (min n m)
    rcases List.mem_cons.mp h with e | e
    · rw [e]
      rcases Int.le_total n m with q | q
      · rw [Int.min_eq_left q]; exact List.mem_cons_self
      · rw [Int.min_eq_right q]; exact List.mem_cons_of_mem _ List.mem_cons_self
    · exact List.mem_cons_of_mem _ (List.mem_cons_of_mem _ e)
theorem foldl_min_le : ∀ (ns : List Int) (n : Int), ∀ y ∈ n :: ns, ns.foldl min n ≤ y
  | [], n, y, h => by
    obtain rfl : y = n := by simpa using h
    exact Int.le_refl _
  | m :: ns, n, y, h => by
    rw [List.foldl_cons]
    have ih := foldl_min_le ns (min n m)
    rcases List.mem_cons.mp h with e | h
    · have := ih _ List.mem_cons_self
      omega
    · rcases List.mem_cons.mp h with e | h
      · have := ih _ List.mem_cons_self
        omega
      · exact ih y (List.mem_cons_of_mem _ h)
theorem foldl_max_mem : ∀ (ns : List Int) (n : Int), ns.foldl max n ∈ n :: ns
  | [], n => List.mem_cons_self
  | m :: ns, n => by
    rw [List.foldl_cons]
    have h := foldl_max_mem ns (max n m)
    rcases List.mem_cons.mp h with e | e
    · rw [e]
      rcases Int.le_total n m with q | q
      · rw [Int.max_eq_right q]; exact List.mem_cons_of_mem _ List.mem_cons_self
      · rw [Int.max_eq_left q]; exact List.mem_cons_self
    · exact List.mem_cons_of_mem _ (List.mem_cons_of_mem _ e)
theorem foldl_max_le : ∀ (ns : List Int) (n : Int), ∀ y ∈ n :: ns, y ≤ ns.foldl max n
  | [], n, y, h => by
    obtain rfl : y = n := by simpa using h
    exact Int.le_refl _
  | m :: ns, n, y, h => by
    rw [List.foldl_cons]
    have ih := foldl_max_le ns (max n m)
    rcases List.mem_cons.mp h with e | h
    · have := ih _ List.mem_cons_self
      omega
    · rcases List.mem_cons.mp h with e | h
      · have := ih _ List.mem_cons_self
        omega
      · exact ih y (List.mem_cons_of_mem _ h)
section
variable {X : Cx} {mg : Str → Option Value}
theorem rBlH {f : Str} (hf : isK f = false) {vs : List V} {H : Hp} {Q : VK} {K : PySem.W.Frag} (h : rBl K mg f vs H Q) : ∃ S ps vr, Same S H ∧ Rps K mg H vs ps ∧ bltH f ps = some vr ∧ ∀ z H', VRok K mg H S vr z H' → Q z H' := by
  unfold rBl at h
  rw [hf] at h
  exact h
theorem rBlK {f : Str} (hf : isK f = true) {vs : List V} {H : Hp} {Q : VK} {K : PySem.W.Frag} (h : rBl K mg f vs H Q) : ∃ S ps vr, Same S H ∧ Rp1s K mg H S vs ps ∧ bltK f ps = some vr ∧ ∀ z H', VRok K mg H S vr z H' → Q z H' := by
  unfold rBl at h
  rw [hf] at h
  exact h
theorem Rpd.length {K : PySem.W.Frag} {S : Hp} : ∀ {kvs : List (List L2.Key × PV)} {ws : List (List L2.Key × V)}, Rpd K mg S ws kvs → ws.length = kvs.length
  | [], ws, h => by unfold Rpd at h; subst h; rfl
  | (k, p) :: r, ws, h => by
    unfold Rpd at h
    obtain ⟨v, r', rfl, h1, h2⟩ := h
    rw [List.length_cons, List.length_cons, Rpd.length h2]
theorem bl_len (hc : X.calm = true) : CallR X (.builtin "len") (rBl X.K mg "len") := by
  intro pins s σ H vs us Q I r h
  obtain ⟨S, ps, vr, sub, hp, e, q⟩ := rBlH rfl h
  rw [bltH_len] at e
  split at e
  · rename_i p
    obtain ⟨v, rfl, h1⟩ := rps_one hp
    simp only [Option.map_eq_some_iff] at e
    obtain ⟨n, e1, rfl⟩ := e
    cases p with
    | tup xs =>
      obtain ⟨a, ws, rfl, t, m⟩ := rp_tup h1
      cases e1
      exact call_len_seq pins s σ H _ us Q I r ⟨a, ws, rfl, .inr t, by rw [m.length]; exact q _ _ ⟨rfl, Rp.int _⟩⟩
    | lst xs =>
      obtain ⟨a, ws, rfl, t, m⟩ := rp_lst h1
      cases e1
      exact call_len_seq pins s σ H _ us Q I r ⟨a, ws, rfl, .inl (SqL.of t), by rw [m.length]; exact q _ _ ⟨rfl, Rp.int _⟩⟩
    | scr xs =>
      obtain ⟨a, rfl, t⟩ := rp_scr h1
      cases e1
      exact call_len_seq pins s σ H _ us Q I r ⟨a, _, rfl, .inl t, by rw [List.length_map]; exact q _ _ ⟨rfl, Rp.int _⟩⟩
    | dct b kvs =>
      obtain ⟨a, ws, rfl, t, m⟩ := rp_dct h1
      cases e1
      cases b with
      | true => exact call_len_dT pins s σ H _ us Q I r ⟨a, ws, rfl, t, by rw [m.length]; exact q _ _ ⟨rfl, Rp.int _⟩⟩
      | false =>
        obtain ⟨ks, t, rfl⟩ := t
        have ml := m.length
        rw [List.length_map] at ml
        exact call_lenD pins s σ H _ us Q I r ⟨a, ks, rfl, t, by rw [ml]; exact q _ _ ⟨rfl, Rp.int _⟩⟩
    | _ => cases e1
  · cases e
theorem bl_abs : CallR X (.builtin "abs") (rBl X.K mg "abs") := by
  intro pins s σ H vs us Q I r h
  obtain ⟨S, ps, vr, sub, hp, e, q⟩ := rBlH rfl h
  rw [bltH_abs] at e
  split at e
  · rename_i i
    obtain ⟨v, rfl, h1⟩ := rps_one hp
    cases rp_int h1
    cases e
    exact call_abs pins s σ H _ us Q I r ⟨_, rfl, q _ _ ⟨rfl, Rp.int _⟩⟩
  · cases e
theorem bl_min (hc : X.calm = true) : CallR X (.builtin "min") (rBl X.K mg "min") := by
  intro pins s σ H vs us Q I r h
  obtain ⟨S, ps, vr, sub, hp, e, q⟩ := rBlH rfl h
  rw [bltH_min] at e
  split at e
  · obtain ⟨v, w, rfl, h1, h2⟩ := rps_two hp
    cases rp_int h1
    cases rp_int h2
    cases e
    exact call_min2 hc pins s σ H _ us Q I r ⟨_, _, rfl, q _ _ ⟨rfl, Rp.int _⟩⟩
  · split at e
    · rename_i n ns e1
      obtain ⟨v, rfl, h1⟩ := rps_one hp
      obtain ⟨a, ws, rfl, t, m⟩ := rp_lst h1
      cases e
      have ew := m.asInts e1
      subst ew
      refine cr_min hc pins s σ H _ us Q I r ⟨a, n :: ns, rfl, SqL.of t, by simp, fun k h1 h2 => ?_⟩
      have : k = ns.foldl min n := Int.le_antisymm (h2 _ (foldl_min_mem ns n)) (foldl_min_le ns n k h1)
      subst this
      exact q _ _ ⟨rfl, Rp.int _⟩
    · cases e
  · split at e
    · rename_i n ns e1
      obtain ⟨v, rfl, h1⟩ := rps_one hp
      obtain ⟨a, ws, rfl, t, m⟩ := rp_tup h1
      cases e
      have ew := m.asInts e1
      subst ew
      refine cr_minT hc pins s σ H _ us Q I r ⟨a, n :: ns, rfl, t, by simp, fun k h1 h2 => ?_⟩
      have : k = ns.foldl min n := Int.le_antisymm (h2 _ (foldl_min_mem ns n)) (foldl_min_le ns n k h1)
      subst this
      exact q _ _ ⟨rfl, Rp.int _⟩
    · cases e
  · cases e
theorem bl_max (hc : X.calm = true) : CallR X (.builtin "max") (rBl X.K mg "max") := by
  intro pins s σ H vs us Q I r h
  obtain ⟨S, ps, vr, sub, hp, e, q⟩ := rBlH rfl h
  rw [bltH_max] at e
  split at e
  · obtain ⟨v, w, rfl, h1, h2⟩ := rps_two hp
    cases rp_int h1
    cases rp_int h2
    cases e
    exact call_max2 hc pins s σ H _ us Q I r ⟨_, _, rfl, q _ _ ⟨rfl, Rp.int _⟩⟩
  · split at e
    · rename_i n ns e1
      obtain ⟨v, rfl, h1⟩ := rps_one hp
      obtain ⟨a, ws, rfl, t, m⟩ := rp_lst h1
      cases e
      have ew := m.asInts e1
      subst ew
      refine cr_max hc pins s σ H _ us Q I r ⟨a, n :: ns, rfl, SqL.of t, by simp, fun k h1 h2 => ?_⟩
      have : k = ns.foldl max n := Int.le_antisymm (foldl_max_le ns n k h1) (h2 _ (foldl_max_mem ns n))
      subst this
      exact q _ _ ⟨rfl, Rp.int _⟩
    · cases e
  · split at e
    · rename_i n ns e1
      obtain ⟨v, rfl, h1⟩ := rps_one hp
      obtain ⟨a, ws, rfl, t, m⟩ := rp_tup h1
      cases e
      have ew := m.asInts e1
      subst ew
      refine cr_maxT hc pins s σ H _ us Q I r ⟨a, n :: ns, rfl, t, by simp, fun k h1 h2 => ?_⟩
      have : k = ns.foldl max n := Int.le_antisymm (foldl_max_le ns n k h1) (h2 _ (foldl_max_mem ns n))
      subst this
      exact q _ _ ⟨rfl, Rp.int _⟩
    · cases e
  · cases e
theorem bl_sum (hc : X.calm = true) : CallR X (.builtin "sum") (rBl X.K mg "sum") := by
  intro pins s σ H vs us Q I r h
  obtain ⟨S, ps, vr, sub, hp, e, q⟩ := rBlH rfl h
  rw [bltH_sum] at e
  split at e
  · obtain ⟨v, rfl, h1⟩ := rps_one hp
    obtain ⟨a, ws, rfl, t, m⟩ := rp_lst h1
    simp only [Option.map_eq_some_iff] at e
    obtain ⟨ns, e1, rfl⟩ := e
    have ew := m.asInts e1
    subst ew
    exact cr_sum hc pins s σ H _ us Q I r ⟨a, ns, rfl, SqL.of t, q _ _ ⟨rfl, Rp.int _⟩⟩
  · obtain ⟨v, rfl, h1⟩ := rps_one hp
    obtain ⟨a, ws, rfl, t, m⟩ := rp_tup h1
    simp only [Option.map_eq_some_iff] at e
    obtain ⟨ns, e1, rfl⟩ := e
    have ew := m.asInts e1
    subst ew
    exact cr_sumT hc pins s σ H _ us Q I r ⟨a, ns, rfl, t, q _ _ ⟨rfl, Rp.int _⟩⟩
  · cases e
theorem bl_all (hc : X.calm = true) : CallR X (.builtin "all") (rBl X.K mg "all") := by
  intro pins s σ H vs us Q I r h
  obtain ⟨S, ps, vr, sub, hp, e, q⟩ := rBlH rfl h
  rw [bltH_all] at e
  split at e
  · obtain ⟨v, rfl, h1⟩ := rps_one hp
    obtain ⟨a, ws, rfl, t, m⟩ := rp_lst h1
    simp only [Option.map_eq_some_iff] at e
    obtain ⟨ns, e1, rfl⟩ := e
    have ew := m.asBls e1
    subst ew
    exact cr_all hc pins s σ H _ us Q I r ⟨a, ns, rfl, SqL.of t, q _ _ ⟨rfl, Rp.bl _⟩⟩
  · cases e
theorem bl_any (hc : X.calm = true) : CallR X (.builtin "any") (rBl X.K mg "any") := by
  intro pins s σ H vs us Q I r h
  obtain ⟨S, ps, vr, sub, hp, e, q⟩ := rBlH rfl h
  rw [bltH_any] at e
  split at e
  · obtain ⟨v, rfl, h1⟩ := rps_one hp
    obtain ⟨a, ws, rfl, t, m⟩ := rp_lst h1
    simp only [Option.map_eq_some_iff] at e
    obtain ⟨ns, e1, rfl⟩ := e
    have ew := m.asBls e1
    subst ew
    exact cr_any hc pins s σ H _ us Q I r ⟨a, ns, rfl, SqL.of t, q _ _ ⟨rfl, Rp.bl _⟩⟩
  · cases e
theorem bl_tuple : CallR X (.type "tuple") (rBl X.K mg "tuple") := by
  intro pins s σ H vs us Q I r h
  obtain ⟨S, ps, vr, sub, hp, e, q⟩ := rBlK rfl h
  rw [bltK_tuple] at e
  split at e
  · obtain ⟨v, rfl, h1⟩ := rp1s_one hp
    obtain ⟨a, ws, rfl, t, m⟩ := h1
    cases e
    exact call_tuple_of pins s σ H _ us Q I r ⟨a, ws, rfl, .inl ⟨SqL.of t, fun l n => q _ _ (.inr ⟨l, ws, rfl, n, rfl, m⟩)⟩⟩
  · obtain ⟨v, rfl, h1⟩ := rp1s_one hp
    have h0 := h1
    obtain ⟨a, ws, rfl, t, m⟩ := rq_tup h1
    cases e
    exact call_tuple_of pins s σ H _ us Q I r ⟨a, ws, rfl, .inr ⟨Same.sqT sub t, q _ _ ⟨rfl, h0⟩⟩⟩
  · cases e
theorem bl_list : CallR X (.type "list") (rBl X.K mg "list") := by
  intro pins s σ H vs us Q I r h
  obtain ⟨S, ps, vr, sub, hp, e, q⟩ := rBlK rfl h
  rw [bltK_list] at e
  split at e
  · obtain ⟨v, rfl, h1⟩ := rp1s_one hp
    obtain ⟨a, ws, rfl, t, m⟩ := h1
    cases e
    exact call_list_of pins s σ H _ us Q I r ⟨a, ws, rfl, .inl (SqL.of t), fun l n => q _ _ ⟨l, ws, rfl, n, rfl, m⟩⟩
  · obtain ⟨v, rfl, h1⟩ := rp1s_one hp
    obtain ⟨a, ws, rfl, t, m⟩ := rq_tup h1
    cases e
    exact call_list_of pins s σ H _ us Q I r ⟨a, ws, rfl, .inr (Same.sqT sub t), fun l n => q _ _ ⟨l, ws, rfl, n, rfl, m⟩⟩
  · obtain ⟨v, rfl, h1⟩ := rp1s_one hp
    obtain ⟨a, rfl, t⟩ := rq_scr h1
    cases e
    exact call_list_of pins s σ H _ us Q I r ⟨a, _, rfl, .inl (Same.sqL sub t), fun l n => q _ _ ⟨l, _, rfl, n, rfl, Rps.ints _⟩⟩
  · cases e
/-! sorted -/
def rowK : PV → List Int
  | .tup ps => (asInts ps).getD []
  | .int i => [i]
  | _ => []
abbrev ltK (x y : PV) : Bool := SrtO.lexL (rowK x) (rowK y)
theorem ltK_swo : SrtO.Swo ltK := SrtO.swo_rows rowK
theorem insP_mem {x : PV} : ∀ {l : List PV} {z : PV}, z ∈ insP x l → z = x ∨ z ∈ l
  | [], z, h => .inl (by simpa [insP] using h)
  | y :: r, z, h => by
    unfold insP at h
    split at h
    · rcases List.mem_cons.mp h with rfl | h
      · exact .inr List.mem_cons_self
      · exact (insP_mem h).imp id (List.mem_cons_of_mem _)
    · rcases List.mem_cons.mp h with rfl | h
      · exact .inl rfl
      · exact .inr h
theorem insP_srtd {x : PV} : ∀ {l : List PV}, (∀ y ∈ l, ltB y x = ltK y x) → SrtO.Srtd ltK l → SrtO.Srtd ltK (insP x l)
  | [], _, _ => SrtO.srtd_one x
  | y :: r, h, hs => by
    have hy := h y List.mem_cons_self
    have hr := (List.pairwise_cons.mp hs)
    unfold insP
    split
    · rename_i q
      rw [hy] at q
      refine List.pairwise_cons.mpr ⟨fun z hz => ?_, insP_srtd (fun z hz => h z (List.mem_cons_of_mem _ hz)) hr.2⟩
      rcases insP_mem hz with rfl | hz
      · exact SrtO.lexL_asymm q
      · exact hr.1 z hz
    · rename_i q
      rw [hy] at q
      have q : ltK y x = false := by simpa using q
      refine List.pairwise_cons.mpr ⟨fun z hz => ?_, hs⟩
      rcases List.mem_cons.mp hz with rfl | hz
      · exact q
      · exact SrtO.lexL_le q (hr.1 z hz)
theorem stb_swap2 {x y : PV} {r : List PV} (q : ltK y x = true) : SrtO.Stb ltK (y :: x :: r) (x :: y :: r) := by
  refine ⟨List.Perm.swap _ _ _, fun z => ?_⟩
  by_cases h1 : SrtO.eqv ltK z x = true
  · have h2 : ¬ SrtO.eqv ltK z y = true := fun h2 => by
      have a := SrtO.eqv_iff.mp h1
      have b := SrtO.eqv_iff.mp h2
      have : ltK y x = false := SrtO.lexL_le (x := rowK x) (y := rowK z) (z := rowK y) a.1 b.2
      rw [this] at q
      cases q
    rw [List.filter_cons_of_neg h2, List.filter_cons_of_pos h1, List.filter_cons_of_pos h1, List.filter_cons_of_neg h2]
  · by_cases h2 : SrtO.eqv ltK z y = true
    · rw [List.filter_cons_of_pos h2, List.filter_cons_of_neg h1, List.filter_cons_of_neg h1, List.filter_cons_of_pos h2]
    · rw [List.filter_cons_of_neg h2, List.filter_cons_of_neg h1, List.filter_cons_of_neg h1, List.filter_cons_of_neg h2]
theorem stb_cons {x : PV} {l m : List PV} (h : SrtO.Stb ltK l m) : SrtO.Stb ltK (x :: l) (x :: m) := by
  have := SrtO.Stb.app (SrtO.Stb.refl (lt := ltK) [x]) h
  exact this
theorem insP_stb {x : PV} : ∀ {l : List PV}, (∀ y ∈ l, ltB y x = ltK y x) → SrtO.Stb ltK (insP x l) (x :: l)
  | [], _ => SrtO.Stb.refl _
  | y :: r, h => by
    have hy := h y List.mem_cons_self
    unfold insP
    split
    · rename_i q
      rw [hy] at q
      exact (stb_cons (insP_stb fun z hz => h z (List.mem_cons_of_mem _ hz))).trans (stb_swap2 q)
    · exact SrtO.Stb.refl _
theorem isortP_ok : ∀ {l : List PV}, (∀ x ∈ l, ∀ y ∈ l, ltB x y = ltK x y) → SrtO.Srtd ltK (isortP l) ∧ SrtO.Stb ltK (isortP l) l
  | [], _ => ⟨List.Pairwise.nil, SrtO.Stb.refl _⟩
  | x :: r, h => by
    obtain ⟨h1, h2⟩ := isortP_ok (l := r) fun a ha b hb => h a (List.mem_cons_of_mem _ ha) b (List.mem_cons_of_mem _ hb)
    have hx : ∀ y ∈ isortP r, ltB y x = ltK y x := fun y hy => h y (List.mem_cons_of_mem _ (h2.perm.mem_iff.mp hy)) x List.mem_cons_self
    exact ⟨insP_srtd hx h1, (insP_stb hx).trans (stb_cons h2)⟩
theorem stb_symm {lt : PV → PV → Bool} {l m : List PV} (h : SrtO.Stb lt l m) : SrtO.Stb lt m l := ⟨h.perm.symm, fun x => (h.cls x).symm⟩
theorem asInts_map : ∀ {xs : List PV} {ns : List Int}, asInts xs = some ns → xs = ns.map .int
  | [], ns, e => by cases e; rfl
  | x :: r, ns, e => by
    cases x with
    | int i =>
      simp only [asInts, Option.map_eq_some_iff] at e
      obtain ⟨m, e1, rfl⟩ := e
      rw [List.map_cons, ← asInts_map e1]
    | _ => cases e
theorem asInts_of : ∀ (ns : List Int), asInts (ns.map .int) = some ns
  | [] => rfl
  | n :: ns => by rw [List.map_cons]; simp only [asInts, asInts_of ns]; rfl
theorem rowK_tup (ns : List Int) : rowK (.tup (ns.map .int)) = ns := by show (asInts (ns.map .int)).getD [] = ns; rw [asInts_of]; rfl
theorem isRow_of {x : PV} (h : isRow x = true) : ∃ ns : List Int, ns ≠ [] ∧ x = .tup (ns.map .int) := by
  cases x with
  | tup ps =>
    cases ps with
    | nil => cases h
    | cons p ps =>
      have h : (asInts (p :: ps)).isSome = true := h
      obtain ⟨ns, e⟩ := Option.isSome_iff_exists.mp h
      refine ⟨ns, fun z => ?_, by rw [asInts_map e]⟩
      have := asInts_map e
      rw [z] at this
      cases this
  | _ => cases h
theorem cmpPs_ints : ∀ (xs ys : List Int), cmpPs (xs.map .int) (ys.map .int) = some (if SrtO.lexL xs ys = true then .lt else if xs = ys then .eq else .gt)
  | [], [] => rfl
  | [], y :: ys => rfl
  | x :: xs, [] => rfl
  | x :: xs, y :: ys => by
    rw [List.map_cons, List.map_cons]
    unfold cmpPs
    have e : cmpP (.int x) (.int y) = some (if x < y then .lt else if x = y then .eq else .gt) := rfl
    rw [e]
    unfold SrtO.lexL
    by_cases h : x = y
    · subst h
      have e1 : (if x < x then Ordering.lt else if x = x then .eq else .gt) = .eq := by simp
      rw [e1]
      dsimp only
      rw [cmpPs_ints xs ys, if_pos rfl]
      simp
    · by_cases h2 : x < y
      · have e1 : (if x < y then Ordering.lt else if x = y then .eq else .gt) = .lt := by simp [h2]
        rw [e1, if_neg h]
        simp [h2]
      · have e1 : (if x < y then Ordering.lt else if x = y then .eq else .gt) = .gt := by simp [h2, h]
        rw [e1, if_neg h]
        simp [h2, h]
theorem ltB_rows (xs ys : List Int) : ltB (.tup (xs.map .int)) (.tup (ys.map .int)) = SrtO.lexL xs ys := by
  unfold ltB
  have e : cmpP (.tup (xs.map .int)) (.tup (ys.map .int)) = cmpPs (xs.map .int) (ys.map .int) := by unfold cmpP; rfl
  rw [e, cmpPs_ints]
  cases h : SrtO.lexL xs ys with
  | true => rfl
  | false =>
    simp only [Bool.false_eq_true, if_false]
    split <;> rfl
theorem ltB_ints (x y : Int) : ltB (.int x) (.int y) = decide (x < y) := by
  unfold ltB
  have e : cmpP (.int x) (.int y) = some (if x < y then .lt else if x = y then .eq else .gt) := rfl
  rw [e]
  by_cases h : x < y
  · simp [h]
  · by_cases h2 : x = y
    · simp [h2]
    · simp [h, h2]
/-- sorted ints are one list -/
theorem ints_uniq : ∀ {l m : List Int}, l.Pairwise (· ≤ ·) → m.Pairwise (· ≤ ·) → l.Perm m → l = m
  | [], m, _, _, p => (List.nil_perm.mp p).symm
  | x :: l, [], _, _, p => absurd p.length_eq (by simp)
  | x :: l, y :: m, h1, h2, p => by
    have a := List.pairwise_cons.mp h1
    have b := List.pairwise_cons.mp h2
    have hx : x ∈ y :: m := p.mem_iff.mp List.mem_cons_self
    have hy : y ∈ x :: l := p.mem_iff.mpr List.mem_cons_self
    have e1 : y ≤ x := by
      rcases List.mem_cons.mp hx with rfl | hx
      · exact Int.le_refl _
      · exact b.1 x hx
    have e2 : x ≤ y := by
      rcases List.mem_cons.mp hy with rfl | hy
      · exact Int.le_refl _
      · exact a.1 y hy
    have e : x = y := by omega
    subst e
    rw [ints_uniq a.2 b.2 p.cons_inv]
theorem isortP_ints {ns ns' : List Int} (p : ns'.Perm ns) (h : ns'.Pairwise (· ≤ ·)) : isortP (ns.map .int) = ns'.map .int := by
  obtain ⟨h1, h2⟩ := isortP_ok (l := ns.map PV.int) fun x hx y hy => by
    obtain ⟨a, _, rfl⟩ := List.mem_map.mp hx
    obtain ⟨b, _, rfl⟩ := List.mem_map.mp hy
    rw [ltB_ints]
    show _ = SrtO.lexL [a] [b]
    unfold SrtO.lexL
    by_cases e : a = b
    · subst e; rw [if_pos rfl]; simp [SrtO.lexL]
    · rw [if_neg e]
  obtain ⟨ms, e⟩ : ∃ ms : List Int, isortP (ns.map .int) = ms.map .int := by
    have : ∀ z ∈ isortP (ns.map .int), ∃ i, z = PV.int i := fun z hz => by
      obtain ⟨i, _, e⟩ := List.mem_map.mp (h2.perm.mem_iff.mp hz)
      exact ⟨i, e.symm⟩
    generalize isortP (ns.map .int) = l at this
    clear h1 h2
    induction l with
    | nil => exact ⟨[], rfl⟩
    | cons z r ih =>
      obtain ⟨i, rfl⟩ := this z List.mem_cons_self
      obtain ⟨ms, rfl⟩ := ih fun w hw => this w (List.mem_cons_of_mem _ hw)
      exact ⟨i :: ms, rfl⟩
  rw [e] at h1 h2 ⊢
  have inj : Function.Injective PV.int := fun a b h => by cases h; rfl
  have p2 : ms.Perm ns := by
    have := h2.perm.filterMap fun z => match z with | .int i => some i | _ => none
    rw [List.filterMap_map, List.filterMap_map] at this
    have e1 : ∀ l : List Int, List.filterMap ((fun z : PV => match z with | .int i => some i | _ => none) ∘ PV.int) l = l := fun l => by
      induction l with
      | nil => rfl
      | cons a r ih => show a :: List.filterMap _ r = a :: r; rw [ih]
    rw [e1, e1] at this
    exact this
  have s2 : ms.Pairwise (· ≤ ·) := by
    refine (List.pairwise_map.mp h1).imp fun {a b} h => ?_
    have h : SrtO.lexL [b] [a] = false := h
    unfold SrtO.lexL at h
    by_cases e : b = a
    · omega
    · rw [if_neg e] at h
      have := of_decide_eq_false h
      omega
  rw [ints_uniq s2 h (p2.trans p.symm)]
theorem Rps.ofInts {K : PySem.W.Frag} {mg : Str → Option Value} {S : Hp} : ∀ (ns : List Int), Rps K mg S (ns.map V.int) (ns.map .int)
  | [] => Rps.nil
  | n :: ns => Rps.cons (Rp.int n) (Rps.ofInts ns)
/-- the ints of a tuple that stands in S -/
def vInt : V → Int
  | .int i => i
  | _ => 0
def rowV (S : Hp) (v : V) : List Int := match v with
  | .ref t => match S t with
    | some (.tup vs) => vs.map vInt
    | _ => []
  | _ => []
theorem rowV_of {S : Hp} {t : Addr} {ns : List Int} (h : S t = some (.tup (ns.map V.int))) : rowV S (.ref t) = ns := by
  unfold rowV
  dsimp only
  rw [h]
  dsimp only
  rw [List.map_map]
  exact List.map_id'' (fun _ => rfl) ns
theorem rps_all {K : PySem.W.Frag} {mg : Str → Option Value} {S : Hp} {f : V → PV} : ∀ {ys : List V}, (∀ y ∈ ys, Rp K mg S y (f y)) → Rps K mg S ys (ys.map f)
  | [], _ => Rps.nil
  | y :: ys, h => Rps.cons (h y List.mem_cons_self) (rps_all fun z hz => h z (List.mem_cons_of_mem _ hz))
/-- the ways of sorting, for items whose values are known -/
theorem srt_ok {K : PySem.W.Frag} {mg : Str → Option Value} {H S : Hp} {vs : List V} {ps : List PV} {Q : VK} (sub : Same S H) (h : Rps K mg S vs ps) (e : srtOk ps = true) (q : ∀ p (ys : List V), H p = none → Rps K mg S ys (isortP ps) → Q (.ref p) (upd H p (.lst ys))) : SrtV H Q vs := by
  unfold srtOk at e
  rcases Bool.or_eq_true_iff.mp e with e | e
  · obtain ⟨ns, e⟩ := Option.isSome_iff_exists.mp e
    obtain rfl := h.asInts e
    obtain rfl := asInts_map e
    refine .inl ⟨ns, rfl, fun ns' p hp hs hn => q p _ hn ?_⟩
    rw [isortP_ints hp hs]
    exact Rps.ofInts ns'
  · have all : ∀ x ∈ ps, ∃ ns : List Int, ns ≠ [] ∧ x = .tup (ns.map .int) := fun x hx => isRow_of (List.all_eq_true.mp e x hx)
    have hv : ∀ {vs : List V} {ps : List PV}, Rps K mg S vs ps → (∀ x ∈ ps, ∃ ns : List Int, ns ≠ [] ∧ x = .tup (ns.map .int)) → ps = vs.map (fun v => PV.tup ((rowV S v).map .int)) ∧ ∀ v ∈ vs, ∃ t, v = .ref t ∧ S t = some (.tup ((rowV S v).map V.int)) ∧ rowV S v ≠ [] := by
      intro vs ps
      induction ps generalizing vs with
      | nil => intro h _; unfold Rps at h; subst h; exact ⟨rfl, fun v hv => by cases hv⟩
      | cons p r ih =>
        intro h ha
        obtain ⟨v, r', rfl, h1, h2⟩ := h.uncons
        obtain ⟨ns, hne, rfl⟩ := ha p List.mem_cons_self
        obtain ⟨i1, i2⟩ := ih h2 fun x hx => ha x (List.mem_cons_of_mem _ hx)
        obtain ⟨t, us, rfl, t1, t2⟩ := rp_tupE h1
        have t3 : us = ns.map V.int := t2.asInts (asInts_of ns)
        subst t3
        have er := rowV_of t1
        refine ⟨by rw [List.map_cons, er, ← i1], fun v hv => ?_⟩
        rcases List.mem_cons.mp hv with rfl | hv
        · exact ⟨t, rfl, by rw [er]; exact t1, by rw [er]; exact hne⟩
        · exact i2 v hv
    obtain ⟨e1, e2⟩ := hv h all
    refine .inr ⟨rowV S, fun x hx => ?_, fun ys p k1 k2 hn => q p ys hn ?_⟩
    · obtain ⟨t, rfl, t1, t2⟩ := e2 x hx
      exact ⟨t, rfl, sub _ _ t1, t2⟩
    · obtain ⟨s1, s2⟩ := isortP_ok (l := ps) fun x hx y hy => by
        obtain ⟨a, _, rfl⟩ := all x hx
        obtain ⟨b, _, rfl⟩ := all y hy
        rw [ltB_rows]
        show _ = SrtO.lexL (rowK _) (rowK _)
        rw [rowK_tup, rowK_tup]
      have fk : ∀ v, rowK (PV.tup ((rowV S v).map .int)) = rowV S v := fun v => rowK_tup _
      have m1 : SrtO.Srtd ltK (ys.map fun v => PV.tup ((rowV S v).map .int)) := SrtO.srtd_map (lt := ltK) (k1.imp fun {a b} h => by
        show SrtO.lexL (rowK _) (rowK _) = false
        rw [fk, fk]; exact h)
      have m2 : SrtO.Stb ltK (ys.map fun v => PV.tup ((rowV S v).map .int)) ps := by
        rw [e1]
        refine SrtO.Stb.map (lt := ltK) ltK_swo (fun v => PV.tup ((rowV S v).map .int)) ?_
        have : (fun x y => ltK (PV.tup ((rowV S x).map .int)) (PV.tup ((rowV S y).map .int))) = fun x y => SrtO.lexL (rowV S x) (rowV S y) := by
          funext x y
          show SrtO.lexL (rowK _) (rowK _) = _
          rw [fk, fk]
        rw [this]
        exact k2
      have := SrtO.stb_uniq ltK_swo m1 s1 (m2.trans (stb_symm s2))
      rw [← this]
      refine rps_all fun y hy => ?_
      obtain ⟨t, rfl, t1, t2⟩ := e2 y (k2.perm.mem_iff.mp hy)
      exact Rp.tup t1 (Rps.ofInts _)
theorem bltK_sorted (ps : List PV) : bltK "sorted" ps = (match ps with
    | [.lst xs] => if srtOk xs = true then some (VR.lst (isortP xs)) else none
    | [.tup xs] => if srtOk xs = true then some (.lst (isortP xs)) else none
    | [.dct b kvs] => if srtOk (kvs.map fun kv => ofK b kv.1) = true then some (.srt (isortP (kvs.map fun kv => ofK b kv.1))) else none
    | _ => none) := by
  unfold bltK
  rfl
theorem Rps.keysK {K : PySem.W.Frag} {mg : Str → Option Value} {S : Hp} : ∀ {kvs : List (List L2.Key × PV)} {ks : List (L2.Key × V)}, Rpd K mg S (ks.map fun p => ([p.1], p.2)) kvs → Rps K mg S (ks.map fun p => kV p.1) (kvs.map fun kv => ofK false kv.1)
  | [], ks, h => by
    unfold Rpd at h
    have : ks = [] := by simpa using h
    subst this
    exact Rps.nil
  | (k, p) :: r, [], h => by unfold Rpd at h; obtain ⟨_, _, h, _⟩ := h; cases h
  | (k, p) :: r, q :: ks, h => by
    unfold Rpd at h
    obtain ⟨v, r', h0, h1, h2⟩ := h
    rw [List.map_cons] at h0
    cases h0
    rw [List.map_cons, List.map_cons]
    refine Rps.cons ?_ (Rps.keysK h2)
    obtain ⟨k, v⟩ := q
    cases k with
    | inl i => exact Rp.int i
    | inr x => show Rp K mg S (.str x) (.str x); unfold Rp; rfl
theorem rps_atoms {K : PySem.W.Frag} {mg : Str → Option Value} {S : Hp} : ∀ (ks : List L2.Key), Rps K mg S (ks.map kV) (ks.map ofA)
  | [] => Rps.nil
  | .inl i :: r => Rps.cons (Rp.int i) (rps_atoms r)
  | .inr x :: r => Rps.cons (by show Rp K mg S (.str x) (.str x); unfold Rp; rfl) (rps_atoms r)
theorem bl_sorted (hc : X.calm = true) : CallR X (.builtin "sorted") (rBl X.K mg "sorted") := by
  intro pins s σ H vs us Q I r h
  obtain ⟨S, ps, vr, sub, hp, e, q⟩ := rBlK rfl h
  rw [bltK_sorted] at e
  split at e
  · split at e
    · rename_i xs hok
      cases e
      obtain ⟨v, rfl, h1⟩ := rp1s_one hp
      obtain ⟨a, ws, rfl, t, m⟩ := h1
      exact cr_srt hc pins s σ H _ us Q I r ⟨_, rfl, .inl ⟨a, ws, rfl, SqL.of t, srt_ok sub m hok fun p ys hn hr => q _ _ ⟨p, ys, rfl, hn, rfl, hr⟩⟩⟩
    · cases e
  · split at e
    · rename_i xs hok
      cases e
      obtain ⟨v, rfl, h1⟩ := rp1s_one hp
      obtain ⟨a, ws, rfl, t, m⟩ := rq_tup h1
      exact cr_srt hc pins s σ H _ us Q I r ⟨_, rfl, .inr (.inl ⟨a, ws, rfl, Same.sqT sub t, srt_ok sub m hok fun p ys hn hr => q _ _ ⟨p, ys, rfl, hn, rfl, hr⟩⟩)⟩
    · cases e
  · split at e
    · rename_i b kvs hok
      cases e
      obtain ⟨v, rfl, h1⟩ := rp1s_one hp
      obtain ⟨a, ws, rfl, t, m⟩ := h1
      cases b with
      | false =>
        obtain ⟨ks, t, rfl⟩ := t
        exact cr_srt hc pins s σ H _ us Q I r ⟨_, rfl, .inr (.inr (.inl ⟨a, ks, rfl, .inl t, srt_ok sub (Rps.keysK m) hok fun p ys hn hr => q _ _ ⟨p, ys, rfl, hn, rfl, Rps.mono ext_same _ _ hr⟩⟩))⟩
      | true =>
        refine cr_srt hc pins s σ H _ us Q I r ⟨_, rfl, .inr (.inr (.inr ⟨a, ws, rfl, .inl t, fun bs hbs => ?_⟩))⟩
        have key : ∀ {kvs : List (List L2.Key × PV)} {ws : List (List L2.Key × V)} {bs : List Addr}, Rpd X.K mg S ws kvs → IsKeys H ws bs → Rps X.K mg (ext S H) (bs.map V.ref) (kvs.map fun kv => ofK true kv.1) := by
          intro kvs
          induction kvs with
          | nil =>
            intro ws bs h1 h2
            unfold Rpd at h1
            subst h1
            cases h2
            exact Rps.nil
          | cons q0 r ih =>
            intro ws bs h1 h2
            obtain ⟨k, p⟩ := q0
            unfold Rpd at h1
            obtain ⟨v, r', rfl, g1, g2⟩ := h1
            cases h2 with
            | @cons _ b _ bs' hb ht =>
              rw [List.map_cons, List.map_cons]
              refine Rps.cons ?_ (ih g2 ht)
              have hb : H b = some (.tup (k.map kV)) := hb
              show Rp X.K mg (ext S H) (.ref b) (ofK true k)
              have e : ofK true k = .tup (k.map ofA) := by cases k <;> rfl
              rw [e]
              exact Rp.tup (ext_tup sub hb) (rps_atoms k)
        have sub2 : Same (ext S H) H := fun b o e => by
          rcases ext_of e with e | ⟨_, vs, rfl, e2⟩
          · exact sub b o e
          · exact e2
        exact srt_ok sub2 (key m hbs) hok fun p ys hn hr => q _ _ ⟨p, ys, rfl, hn, rfl, hr⟩
    · cases e
  · cases e
theorem bl_int : CallR X (.type "int") (rBl X.K mg "int") := by
  intro pins s σ H vs us Q I r h
  obtain ⟨S, ps, vr, sub, hp, e, q⟩ := rBlH rfl h
  rw [bltH_int] at e
  split at e
  · obtain ⟨v, rfl, h1⟩ := rps_one hp
    cases rp_int h1
    cases e
    exact call_int1 pins s σ H _ us Q I r (.inl ⟨_, rfl, q _ _ ⟨rfl, Rp.int _⟩⟩)
  · obtain ⟨v, rfl, h1⟩ := rps_one hp
    cases rp_bl h1
    cases e
    exact call_int1 pins s σ H _ us Q I r (.inr ⟨_, rfl, q _ _ ⟨rfl, Rp.int _⟩⟩)
  · cases e
/-- a value's type -/
theorem ty_of {K : PySem.W.Frag} {H : Hp} {p : PV} {v : V} (h : Rp K mg H v p) : match p with
    | .non => TyX K H v (.type "NoneType") | .bl _ => TyX K H v (.type "bool") | .int _ => TyX K H v (.type "int") | .str _ => TyX K H v (.type "str")
    | .tup _ => TyX K H v (.type "tuple") | .lst _ => TyX K H v (.type "list") | _ => True := by
  cases p with
  | non => cases rp_non h; exact .base .non
  | bl b => cases rp_bl h; exact .base (.bl _)
  | int i => cases rp_int h; exact .base (.int _)
  | str x => cases rp_str h; exact .base (.str _)
  | tup ps =>
    obtain ⟨a, vs, rfl, t, m⟩ := rp_tupE h
    exact .base (.tup t)
  | lst ps => obtain ⟨a, vs, rfl, t, m⟩ := rp_lst h; exact .base (.lst t)
  | ty _ => trivial
  | scr _ => trivial
  | obj _ _ => trivial
  | dct _ _ => trivial
  | dcl _ => trivial
theorem isi_ok {K : PySem.W.Frag} {H : Hp} {p : PV} {v : V} {T : String} {b : Bool} (h : Rp K mg H v p) (e : isiP p T = some b) : ∃ t, TyX K H v t ∧ PySem.W.kitOne K t (.type T) = some b := by
  have ht := ty_of h
  unfold isiP at e
  split at e <;> first
    | (cases e; exact ⟨_, ht, kit_ty (by decide +kernel)⟩)
    | cases e
theorem bl_isi : CallR X (.builtin "isinstance") (rBl X.K mg "isinstance") := by
  intro pins s σ H vs us Q I r h
  obtain ⟨S, ps, vr, sub, hp, e, q⟩ := rBlH rfl h
  rw [bltH_isi] at e
  split at e
  · rename_i p T
    obtain ⟨v, w, rfl, h1, h2⟩ := rps_two hp
    cases rp_ty h2
    simp only [Option.map_eq_some_iff] at e
    obtain ⟨b, e1, rfl⟩ := e
    obtain ⟨t, t1, t2⟩ := isi_ok h1 e1
    exact call_isi pins s σ H _ us Q I r ⟨v, .ty T, t, .type T, b, rfl, .ty T, t1, t2, q _ _ ⟨rfl, Rp.bl _⟩⟩
  · cases e
/-- the built-in functions that the evaluator knows -/
def blts : List Str := ["len", "abs", "min", "max", "sum", "all", "any", "tuple", "list", "int", "isinstance", "sorted"]
theorem blt_ok {f : Str} (hc : X.calm = true) (hf : f ∈ blts) : (f ≠ "__name__" ∧ (f == ("__debug__" : Str)) = false) ∧ ((∃ id, bootBuiltins f = some (.builtin id) ∧ CallR X (.builtin id) (rBl X.K mg f)) ∨ ∃ T, bootBuiltins f = some (.type T) ∧ CallR X (.type T) (rBl X.K mg f)) := by
  simp only [blts, List.mem_cons, List.not_mem_nil, or_false] at hf
  rcases hf with rfl | rfl | rfl | rfl | rfl | rfl | rfl | rfl | rfl | rfl | rfl | rfl
  · exact ⟨by decide, .inl ⟨_, by decide +kernel, bl_len hc⟩⟩
  · exact ⟨by decide, .inl ⟨_, by decide +kernel, bl_abs⟩⟩
  · exact ⟨by decide, .inl ⟨_, by decide +kernel, bl_min hc⟩⟩
  · exact ⟨by decide, .inl ⟨_, by decide +kernel, bl_max hc⟩⟩
  · exact ⟨by decide, .inl ⟨_, by decide +kernel, bl_sum hc⟩⟩
  · exact ⟨by decide, .inl ⟨_, by decide +kernel, bl_all hc⟩⟩
  · exact ⟨by decide, .inl ⟨_, by decide +kernel, bl_any hc⟩⟩
  · exact ⟨by decide, .inr ⟨_, by decide +kernel, bl_tuple⟩⟩
  · exact ⟨by decide, .inr ⟨_, by decide +kernel, bl_list⟩⟩
  · exact ⟨by decide, .inr ⟨_, by decide +kernel, bl_int⟩⟩
  · exact ⟨by decide, .inl ⟨_, by decide +kernel, bl_isi⟩⟩
  · exact ⟨by decide, .inl ⟨_, by decide +kernel, bl_sorted hc⟩⟩
variable {W : WX} {a e : Expr} {es : List Expr} {p pos : Pos}
abbrev fBlt (f : Str) (fs : Env → Res (List RV × Env)) : Env → Res (RV × Env) := fun env => (fs env).bind fun r => (optR (rdsB (if isK f = true then rd else rdH) r.2 r.1)).bind fun ps => (optR (if isK f = true then bltK f ps else bltH f ps)).bind fun v => .ok (mkV v, unbs r.1 r.2)
theorem le_blt {f : Str} {fs : Env → Res (List RV × Env)} (hc : X.calm = true) (hf : f ∈ blts) (hg : Gl X f) (hm : X.mg f = none) (ha : LHs X W (e :: es) fs) (he : starEach (e :: es) X.env = (false, eval e X.env) :: starEach es X.env) (hpl : (backTo pos (starEach es X.env)).any (·.1) = false) :
    LE X W (.Call (.Name f p) (e :: es) [] pos) (fBlt f fs) := by
  obtain ⟨⟨n1, n2⟩, hh⟩ := blt_ok (X := X) (mg := X.mg) hc hf
  have key : ∀ σ H Q, liftE X.K X.mg W (fBlt f fs) σ H Q → tCB (rBl X.K X.mg f) (liftHs X.K X.mg W fs) σ H Q := by
    rintro σ H Q ⟨env, S, As, R, h⟩
    refine liftHs.mono (bindHs Stp.refl R h) ?_
    rintro vs H1 ⟨rs, env1, S1, As1, B, st1, R1, ok1, fr1, h1⟩
    obtain ⟨ps, e1, h1⟩ := h1.opt
    obtain ⟨vr, e2, h1⟩ := h1.opt
    refine ⟨S1, ps, vr, R1.sub, ?_, e2, fun z H' hz => finU st1 R1 ok1 fr1 hz h1⟩
    by_cases hk : isK f = true
    · dsimp only at e1
      rw [if_pos hk] at e1 ⊢
      exact rds_ok R1 ok1 e1
    · dsimp only at e1
      rw [if_neg hk] at e1 ⊢
      exact rdsH_ok R1 ok1 e1
  rcases hh with ⟨id, hb, hr⟩ | ⟨T, hb, hr⟩
  · exact PE.imp (pe_callB hr hg hm hb ha n1 n2 he hpl) key
  · exact PE.imp (pe_callTy hr hg hm hb ha n1 n2 he hpl) key
/-! ### slices -/
def liftP (K : PySem.W.Frag) (mg : Str → Option Value) (W : WX) (f : Env → Res (Option Int × Env)) : TO := fun σ H Q => ∃ env S As, Rel K mg σ env H S As ∧ Post K mg W H S As (f env) (fun o env' => ∀ H' S' As', Stp H S As H' S' As' → Rel K mg σ env' H' S' As' → Q o H')
theorem liftP.mono {K : PySem.W.Frag} {σ : SlotV} {H : Hp} {f : Env → Res (Option Int × Env)} {Q Q' : Option Int → Hp → Prop} (h : liftP K mg W f σ H Q) (hq : ∀ v H, Q v H → Q' v H) : liftP K mg W f σ H Q' :=
  let ⟨env, S, As, R, p⟩ := h
  ⟨env, S, As, R, p.mono fun _ _ k H' S' As' a b => hq _ _ (k H' S' As' a b)⟩
theorem bindP {K : PySem.W.Frag} {σ : SlotV} {env : Env} {H S H₀ S₀ : Hp} {As As₀ : Fp} {β : Type} {f : Env → Res (Option Int × Env)} {g : Option Int × Env → Res (β × Env)} {k : β → Env → Prop} (st : Stp H₀ S₀ As₀ H S As) (R : Rel K mg σ env H S As) (h : Post K mg W H₀ S₀ As₀ ((f env).bind g) k) :
    liftP K mg W f σ H fun v H1 => ∃ env1 S1 As1, Stp H S As H1 S1 As1 ∧ Rel K mg σ env1 H1 S1 As1 ∧ Post K mg W H₀ S₀ As₀ (g (v, env1)) k :=
  ⟨env, S, As, R, (Post.part st h).mono fun b e p H' S' As' a c => ⟨e, S', As', a, c, p⟩⟩
abbrev LP (X : Cx) (W : WX) (e : Option Expr) (f : Env → Res (Option Int × Env)) : Prop := PO X e (liftP X.K X.mg W f)
theorem PO.imp {e : Option Expr} {t t' : TO} (h : PO X e t) (f : ∀ σ H Q, t' σ H Q → t σ H Q) : PO X e t' := ⟨fun pins s σ H Q I q => h.run pins s σ H Q I (f σ H Q q)⟩
theorem lp_none : LP X W none (fun env => .ok (none, env)) := by
  refine PO.imp po_none ?_
  rintro σ H Q ⟨env, S, As, R, h⟩
  exact h H S As Stp.refl R
theorem lp_some {fa : Env → Res (RV × Env)} (ha : LE X W a fa) : LP X W (some a) (fun env => (fa env).bind fun r => match r.1 with
    | .val (.int i) => .ok (some i, r.2)
    | _ => .stuck) := by
  refine PO.imp (po_some ha) ?_
  rintro σ H Q ⟨env, S, As, R, h⟩
  refine liftE.mono (bindE Stp.refl R h) ?_
  rintro v H1 ⟨rv, env1, S1, As1, B1, st1, R1, ok1, fr1, h1⟩
  split at h1
  · rename_i i e
    obtain rfl : rv = .val (.int i) := e
    exact ⟨i, rp_int ok1.1, h1 _ _ _ st1 R1⟩
  · exact False.elim h1
theorem rcut {K : PySem.W.Frag} {mg : Str → Option Value} {S : Hp} {xs : List PV} {vs : List V} {lo hi : Option Int} (m : Rps K mg S vs xs) : Rps K mg S (cutV vs lo hi) (cutP xs lo hi) := by
  unfold cutV cutP
  rw [m.length]
  exact m.drop.take
theorem sIx_le (n : Nat) : ∀ (o : Option Int) (d : Nat), d ≤ n → HT.sIx n d o ≤ n := by
  intro o d hd
  unfold HT.sIx
  split <;> first | assumption | (split <;> omega) | omega
theorem le_sl {fa : Env → Res (RV × Env)} {lo hi : Option Expr} {fl fh : Env → Res (Option Int × Env)} {p2 : Pos} (ha : LE X W a fa) (hl : LP X W lo fl) (hh : LP X W hi fh) : LE X W (.Subscript a (.Slice lo hi none p2) pos)
    (fun env => (fa env).bind fun r => (fl r.2).bind fun l => (fh l.2).bind fun h => (optR (rd h.2 r.1)).bind fun x => (optR (slP x l.1 h.1)).bind fun v => .ok (mkV v, unb r.1 h.2)) := by
  refine PE.imp (pe_slice (sl_list.or sl_tupA) ha hl hh) ?_
  rintro σ H Q ⟨env, S, As, R, h⟩
  refine liftE.mono (bindE Stp.refl R h) ?_
  rintro v H1 ⟨rv, env1, S1, As1, B1, st1, R1, ok1, fr1, h1⟩
  refine liftP.mono (bindP st1 R1 h1) ?_
  rintro l H2 ⟨env2, S2, As2, st2, R2, h2⟩
  refine liftP.mono (bindP (st1.trans st2) R2 h2) ?_
  rintro u H3 ⟨env3, S3, As3, st3, R3, h3⟩
  obtain ⟨p, e1, h3⟩ := h3.opt
  obtain ⟨vr, e2, h3⟩ := h3.opt
  have r := R3.rd ((ok1.stp st2).stp st3) e1
  have st := (st1.trans st2).trans st3
  have ok3 := (ok1.stp st2).stp st3
  cases p with
  | tup xs =>
    have e2 : some (VR.tup (cutP xs l u)) = some vr := e2
    cases e2
    have r0 := r
    obtain ⟨a, vs, rfl, t, m⟩ := rq_tup r
    refine .inr ⟨a, vs, rfl, Same.sqT R3.sub t, fun z => ?_, fun _ p n => finU (rs := [rv]) (vr := .tup (cutP xs l u)) st R3 (rvs1 ok3) (nil_fr fr1) (.inr ⟨p, _, rfl, n, rfl, rcut m⟩) h3⟩
    have e : cutP xs l u = xs := by
      unfold cutP
      rw [m.length] at z
      rw [z.1, z.2]
      simp
    rw [e] at h3
    exact finU (rs := [rv]) (vr := .tup xs) st R3 (rvs1 ok3) (nil_fr fr1) (.inl ⟨rfl, r0⟩) h3
  | lst xs =>
    have e2 : some (VR.lst (cutP xs l u)) = some vr := e2
    cases e2
    obtain ⟨a, vs, rfl, t, m⟩ := r
    exact .inl ⟨a, vs, rfl, SqL.of t, fun p n => finU (rs := [rv]) (vr := .lst (cutP xs l u)) st R3 (rvs1 ok3) (nil_fr fr1) ⟨p, _, rfl, n, rfl, rcut m⟩ h3⟩
  | _ => cases e2
end
end PL
set_option Elab.async false
set_option linter.all false
set_option maxRecDepth 100000
set_option maxHeartbeats 1000000
namespace PL
open PySem PySem.Spec PyProof.Rows L2
/-! ### what a def promises -/
def ArgsOk (K : PySem.W.Frag) (mg : Str → Option Value) (H S : Hp) : List V → List Arg → List Addr → Prop
  | vs, [], B => vs = [] ∧ B = []
  | vs, .own c :: as, B => ∃ v r ps, vs = v :: r ∧ as = vals ps ∧ CellOk K mg H S v c B ∧ Rps K mg S r ps
  | vs, .val p :: as, B => ∃ ps, as = vals ps ∧ B = [] ∧ Rps K mg S vs (p :: ps)
/-- behind a call: S' the frozen part, Bo the lent thing's objects, Br the new result's -/
structure CallEnd (K : PySem.W.Frag) (mg : Str → Option Value) (H S : Hp) (B : List Addr) (H' S' : Hp) (Bo Br : List Addr) : Prop where
  sub : Same S' H'
  same : Same S S'
  fr : ∀ b o, H b = some o → b ∉ B → H' b = some o
  own : ∀ b, b ∈ Bo ∨ b ∈ Br → (b ∈ B ∨ H b = none) ∧ S' b = none
  apart : ∀ b ∈ Br, b ∉ Bo
  new : ∀ b, S' b ≠ none → S b ≠ none ∨ b ∈ B ∨ Nw (H b)
def RetOk (K : PySem.W.Frag) (mg : Str → Option Value) (H' S' : Hp) (v : V) (r : RV) (Br : List Addr) : Prop := match r with
  | .val p => Rp K mg S' v p ∧ Br = []
  | .loc _ => False
  | .brw _ _ _ => False
  | .new c => CellOk K mg H' S' v c Br
def OutOk (K : PySem.W.Frag) (mg : Str → Option Value) (H' S' : Hp) (vs : List V) (out : Option Cell) (Bo : List Addr) : Prop := match out with
  | none => Bo = []
  | some c => ∃ v r, vs = v :: r ∧ CellOk K mg H' S' v c Bo
/-- the promise of a def whose meaning is m -/
def spL (K : PySem.W.Frag) (mg : Str → Option Value) (np : Nat) (m : List Arg → FRes) : Sp := fun vs H Q E => vs.length = np ∧ ∃ args S B, Same S H ∧ ArgsOk K mg H S vs args B ∧ (∀ b ∈ B, S b = none) ∧ match m args with
  | .ok r out => ∀ v H' S' Bo Br, CallEnd K mg H S B H' S' Bo Br → RetOk K mg H' S' v r Br → OutOk K mg H' S' vs out Bo → Q v H'
  | .exc C fs => ∀ cls d H' S', CallEnd K mg H S B H' S' [] [] → ExOk K mg H' S' C fs cls d → E cls d H'
  | .stuck => False
/-- a def stands at f and means m, where calls may go n deep -/
structure FnAt (P : Program) (w : World) (K : PySem.W.Frag) (mg : Str → Option Value) (base : Heap) (n : Nat) (f : Addr) (df : List (List PV)) (m : List Arg → FRes) : Prop where
  ok : ∃ fd ps, FnOk P w K mg base (L2.CX P w) n f fd ps (spL K mg ps.length m) ∧ Binds K fd ps [] ∧ (∀ args, m args ≠ .stuck → args.length = ps.length) ∧ ∀ dp ∈ df, ∃ ds dvs, Binds K fd ps ds ∧ Vals dvs ds ∧ ∀ S, Rps K mg S dvs dp
  kp : PySem.W.keepIn K (.ref f) = true
section
variable {X : Cx} {W : WX} {a e : Expr} {es : List Expr} {p pos : Pos}
theorem RetOk.rv {K : PySem.W.Frag} {mg : Str → Option Value} {H S H' S' : Hp} {B Bo Br : List Addr} {σ : SlotV} {As : Fp} {v : V} {r : RV} (h : RetOk K mg H' S' v r Br) (hB : ∀ b ∈ Br, ¬ Own As b ∧ S' b = none) : RvOk K mg σ H' S' As v r Br := by
  cases r with
  | val p => exact h
  | loc j => exact False.elim h
  | brw j p c => exact False.elim h
  | new c => exact ⟨h, hB⟩
theorem args_vals {K : PySem.W.Frag} {mg : Str → Option Value} {H S : Hp} {vs : List V} {ps : List PV} (h : Rps K mg S vs ps) : ArgsOk K mg H S vs (vals ps) [] := by
  cases ps with
  | nil => unfold Rps at h; subst h; exact ⟨rfl, rfl⟩
  | cons p ps => exact ⟨ps, rfl, rfl, h⟩
/-- a call that lends nothing, behind the values of its arguments -/
theorem call_reading {n : Nat} {m : List Arg → FRes} {np : Nat} {K : PySem.W.Frag} {mg : Str → Option Value} {σ : SlotV} {env1 : Env} {H H1 S S1 : Hp} {As As1 : Fp} {Q : VK} {vs : List V} {args : List Arg} (hv : vs.length = np) (st : Stp H S As H1 S1 As1) (R1 : Rel K mg σ env1 H1 S1 As1)
    (ha : ArgsOk K mg H1 S1 vs args []) (h1 : Post K mg W H S As (endCall none env1 (m args)) (KE K mg σ H S As Q)) : spL K mg np m vs H1 Q (WE W σ) := by
  refine ⟨hv, args, S1, [], R1.sub, ha, fun b hb => (by cases hb), ?_⟩
  have back : ∀ {H' S' : Hp} {Bo Br : List Addr}, CallEnd K mg H1 S1 [] H' S' Bo Br → Rel K mg σ env1 H' S' As1 ∧ Stp H1 S1 As1 H' S' As1 := fun {H' S' Bo Br} c => by
    refine ⟨R1.grow c.sub c.same (fun b hb => ?_) fun b hb => ?_, c.same, fun b o e _ => c.fr b o e (by simp), fun b hb => .inl hb, fun b hb => (c.new b hb).elim .inl fun z => .inr (.inr (z.elim (fun q => by cases q) id)), rfl⟩
    · cases e : H1 b with
      | none => exact absurd e (R1.there hb)
      | some o => exact c.fr b o e (by simp)
    · cases e : S' b with
      | none => rfl
      | some o =>
        rcases c.new b (by rw [e]; simp) with z | z | z
        · exact absurd (R1.free b hb) z
        · cases z
        · exact absurd z (R1.thereN hb)
  cases hm : m args with
  | stuck => rw [hm] at h1; exact False.elim h1
  | exc C fs =>
    rw [hm] at h1
    intro cls d H' S' c ex
    obtain ⟨R', st'⟩ := back c
    exact h1 σ H' S' As1 cls d (st.trans st') R' ex
  | ok r out =>
    rw [hm] at h1
    cases out with
    | some c => exact False.elim h1
    | none =>
      intro v H' S' Bo Br c rt ot
      obtain ⟨R', st'⟩ := back c
      have hn : ∀ b ∈ Br, H1 b = none := fun b hb => (c.own b (.inr hb)).1.elim (fun q => by cases q) id
      refine h1 v H' S' As1 Br (st.trans st') R' (rt.rv (Bo := Bo) (B := []) (H := H1) (S := S1) fun b hb => ⟨fun z => R1.there z (hn b hb), (c.own b (.inr hb)).2⟩) fun b hb => st.fresh (.inl (hn b hb))
theorem le_call {n : Nat} {df : List (List PV)} {m : List Arg → FRes} {f : Str} {x : Addr} {fs : Env → Res (List PV × Env)} (tk : Takes X W) (F : FnAt X.prog X.w X.K X.mg X.base n x df m) (hr : Room n X.A) (hg : Gl X f) (hm : X.mg f = some (.ref x)) (ha : LTs X W (e :: es) fs)
    (hdb : (f == ("__debug__" : Str)) = false) (he : starEach (e :: es) X.env = (false, eval e X.env) :: starEach es X.env) (hpl : (backTo pos (starEach es X.env)).any (·.1) = false) :
    LE X W (.Call (.Name f p) (e :: es) [] pos) (fun env => (fs env).bind fun r => endCall none r.2 (m (vals r.1))) := by
  obtain ⟨fd, ps, ok, bi, ln, _⟩ := F.ok
  refine PE.imp (pe_callS ok hr hg hm F.kp bi (passAt tk) ha hdb he hpl) ?_
  rintro σ H Q ⟨env, S, As, R, h⟩
  refine liftTs.mono (bindTs Stp.refl R h) ?_
  rintro vs H1 ⟨qs, env1, S1, As1, st1, R1, rs, h1⟩
  have hlen : (vals qs).length = ps.length := ln _ fun z => by
    dsimp only at h1
    rw [z] at h1
    exact False.elim h1
  exact call_reading (n := n) (by rw [rs.length, ← hlen]; simp [vals]) st1 R1 (args_vals rs) h1
theorem CellOk.root {K : PySem.W.Frag} {mg : Str → Option Value} {H S : Hp} {v : V} {c : Cell} {B : List Addr} {a : Addr} {r : List Addr} (h : CellOk K mg H S v c B) (e : B = a :: r) : v = .ref a := by
  cases c with
  | fz p => unfold CellOk at h; rw [h.2] at e; cases e
  | lst xs => unfold CellOk at h; obtain ⟨b, vs, rfl, _, _, rfl⟩ := h; cases e; rfl
  | ls xs => unfold CellOk at h; obtain ⟨b, vs, Bs, rfl, _, _, _, rfl⟩ := h; cases e; rfl
  | dct bb xs => unfold CellOk at h; obtain ⟨b, vs, rfl, _, _, rfl⟩ := h; cases e; rfl
  | obj C fs => unfold CellOk at h; obtain ⟨b, c, dx, gs, Bs, rfl, _, _, _, _, rfl⟩ := h; cases e; rfl
theorem CellOk.rooted {K : PySem.W.Frag} {mg : Str → Option Value} {H S : Hp} {v : V} {c : Cell} {B : List Addr} (h : CellOk K mg H S v c B) (e : isFz c = false) : ∃ a r, B = a :: r ∧ v = .ref a := by
  cases c with
  | fz p => cases e
  | lst xs => unfold CellOk at h; obtain ⟨b, vs, rfl, _, _, rfl⟩ := h; exact ⟨_, _, rfl, rfl⟩
  | ls xs => unfold CellOk at h; obtain ⟨b, vs, Bs, rfl, _, _, _, rfl⟩ := h; exact ⟨_, _, rfl, rfl⟩
  | dct bb xs => unfold CellOk at h; obtain ⟨b, vs, rfl, _, _, rfl⟩ := h; exact ⟨_, _, rfl, rfl⟩
  | obj C fs => unfold CellOk at h; obtain ⟨b, c, dx, gs, Bs, rfl, _, _, _, _, rfl⟩ := h; exact ⟨_, _, rfl, rfl⟩
/-- a call that lends its first argument: slot i -/
theorem lent_reading {m : List Arg → FRes} {np : Nat} {K : PySem.W.Frag} {mg : Str → Option Value} {σ : SlotV} {env1 : Env} {H H1 S S1 : Hp} {As As1 : Fp} {Q : VK} {v : V} {vs : List V} {i : Nat} {c : Cell} {qs : List PV} (hv : (v :: vs).length = np) (st : Stp H S As H1 S1 As1) (R1 : Rel K mg σ env1 H1 S1 As1)
    (hi : get env1 i = some c) (hfz : isFz c = false) (hσ : σ[i]? = some (some v)) (rs : Rps K mg S1 vs qs) (h1 : Post K mg W H S As (endCall (some i) env1 (m (.own c :: vals qs))) (KE K mg σ H S As Q)) : spL K mg np m (v :: vs) H1 Q (WE W σ) := by
  obtain ⟨w, e1, hc⟩ := R1.cell i c hi
  obtain rfl : w = v := by simpa using e1.symm.trans hσ
  refine ⟨hv, .own c :: vals qs, S1, As1 i, R1.sub, ⟨w, vs, qs, rfl, rfl, hc, rs⟩, fun b hb => R1.free b ⟨i, hb⟩, ?_⟩
  have back : ∀ {H' S' : Hp} {Bo Br : List Addr} {c' : Option Cell}, CallEnd K mg H1 S1 (As1 i) H' S' Bo Br → (match c' with | some c' => CellOk K mg H' S' w c' Bo | none => Bo = []) →
      Rel K mg σ (env1.set i c') H' S' (updF As1 i Bo) ∧ Stp H1 S1 As1 H' S' (updF As1 i Bo) := fun {H' S' Bo Br c'} ce hc' => by
    have frj : ∀ j b, j ≠ i → b ∈ As1 j → H' b = H1 b := fun j b n hb => by
      cases e : H1 b with
      | none => exact absurd e (R1.there ⟨j, hb⟩)
      | some o => exact ce.fr b o e (R1.disj j i b n hb)
    refine ⟨?_, ce.same, fun b o e nb => ce.fr b o e fun z => nb ⟨i, z⟩, fun b hb => ?_, fun b hb => (ce.new b hb).elim .inl fun z => .inr (z.imp (fun q => ⟨i, q⟩) id), rfl⟩
    · have := R1.chg (i := i) (v := w) (c := c') (B := Bo) (H' := H') (S' := S') (get_lt hi) ce.sub ce.same frj (fun j b n hb => ?_) hc' (fun b hb => ⟨fun j n hb2 => ?_, (ce.own b (.inl hb)).2⟩) (fun e0 a r h => ?_)
      · rw [set_self hσ] at this; exact this
      · cases e : S' b with
        | none => rfl
        | some o =>
          rcases ce.new b (by rw [e]; simp) with z | z | z
          · exact absurd (R1.free b ⟨j, hb⟩) z
          · exact absurd z (R1.disj j i b n hb)
          · exact absurd z (R1.thereN ⟨j, hb⟩)
      · rcases (ce.own b (.inl hb)).1 with z | z
        · exact R1.disj j i b n hb2 z
        · exact R1.there ⟨j, hb2⟩ z
      · have hw : w = .ref a := by
          cases c' with
          | none => have hc' : Bo = [] := hc'; rw [hc'] at h; cases h
          | some c' => exact (show CellOk K mg H' S' w c' Bo from hc').root h
        obtain ⟨a', r', h1, h2⟩ := hc.rooted hfz
        rw [hw] at h2
        cases h2
        rw [e0] at h1
        exact R1.anc a r' h1
    · obtain ⟨j, hj⟩ := hb
      by_cases q : j = i
      · subst q
        rw [updF_same] at hj
        exact (ce.own b (.inl hj)).1.imp (fun z => ⟨j, z⟩) id
      · rw [updF_ne q] at hj
        exact .inl ⟨j, hj⟩
  cases hm : m (.own c :: vals qs) with
  | stuck => rw [hm] at h1; exact False.elim h1
  | exc C fs =>
    rw [hm] at h1
    intro cls d H' S' ce ex
    obtain ⟨R', st'⟩ := back (c' := none) ce rfl
    exact h1 σ H' S' _ cls d (st.trans st') R' ex
  | ok r out =>
    rw [hm] at h1
    cases out with
    | none => exact False.elim h1
    | some c' =>
      intro v' H' S' Bo Br ce rt ot
      obtain ⟨u, r', e2, hc'⟩ := ot
      obtain ⟨rfl, rfl⟩ : w = u ∧ vs = r' := by simpa using e2
      obtain ⟨R', st'⟩ := back (c' := some c') ce hc'
      refine h1 v' H' S' _ Br (st.trans st') R' (rt.rv (Bo := Bo) (B := As1 i) (H := H1) (S := S1) fun b hb => ⟨fun z => ?_, (ce.own b (.inr hb)).2⟩) fun b hb => st.fresh ((ce.own b (.inr hb)).1.elim (fun z => .inr ⟨i, z⟩) .inl)
      obtain ⟨j, hj⟩ := z
      by_cases q : j = i
      · subst q
        rw [updF_same] at hj
        exact ce.apart b hb hj
      · rw [updF_ne q] at hj
        rcases (ce.own b (.inr hb)).1 with z | z
        · exact R1.disj j i b q hj z
        · exact R1.there ⟨j, hj⟩ z
theorem le_calm {n : Nat} {df : List (List PV)} {m : List Arg → FRes} {f : Str} {x : Addr} {fs : Env → Res (List PV × Env)} {i : Nat} {y : Str} {py : Pos} (tk : Takes X W) (F : FnAt X.prog X.w X.K X.mg X.base n x df m) (hr : Room n X.A) (hg : Gl X f) (hm : X.mg f = some (.ref x)) (ha : LTs X W es fs)
    (hN : X.N[i]? = some y) (hvis : Vis X.env.scope y) (hyd : (y == ("__debug__" : Str)) = false) (hycd : (y == ("__classdict__" : Str)) = false)
    (hdb : (f == ("__debug__" : Str)) = false) (hpl : (backTo pos (starEach es X.env)).any (·.1) = false) :
    LE X W (.Call (.Name f p) (.Name y py :: es) [] pos) (fun env => match get env i with
    | none => .stuck
    | some (.fz _) => .stuck
    | some _ => (fs env).bind fun r => (lend r.2 i).bind fun c => endCall (some i) r.2 (m (.own c :: vals r.1))) := by
  obtain ⟨fd, ps, ok, bi, ln, _⟩ := F.ok
  refine PE.imp (pe_callS ok hr hg hm F.kp bi (passAt tk) (pa_cons (pe_var hN hvis hyd hycd) ha rfl) hdb rfl hpl) ?_
  rintro σ H Q ⟨env, S, As, R, h⟩
  have hc : ∃ c, get env i = some c ∧ Post X.K X.mg W H S As ((fs env).bind fun r => (lend r.2 i).bind fun c => endCall (some i) r.2 (m (.own c :: vals r.1))) (KE X.K X.mg σ H S As Q) := by
    dsimp only at h
    cases e : get env i with
    | none => rw [e] at h; exact False.elim h
    | some c => rw [e] at h; cases c <;> first | exact False.elim h | exact ⟨_, rfl, h⟩
  obtain ⟨c, hc, h⟩ := hc
  obtain ⟨v, hv, _⟩ := R.cell i c hc
  refine ⟨v, hv, liftTs.mono (bindTs Stp.refl R h) ?_⟩
  rintro vs H1 ⟨qs, env1, S1, As1, st1, R1, rs, h1⟩
  have hl : ∃ c', get env1 i = some c' ∧ isFz c' = false ∧ Post X.K X.mg W H S As (endCall (some i) env1 (m (.own c' :: vals qs))) (KE X.K X.mg σ H S As Q) := by
    dsimp only at h1
    unfold lend at h1
    cases e : get env1 i with
    | none => rw [e] at h1; exact False.elim h1
    | some c => rw [e] at h1; cases c <;> first | exact False.elim h1 | exact ⟨_, rfl, rfl, h1⟩
  obtain ⟨c', hc', hfz, h1⟩ := hl
  have hlen : (Arg.own c' :: vals qs).length = ps.length := ln _ fun z => by
    rw [z] at h1
    exact False.elim h1
  exact lent_reading (by rw [List.length_cons, rs.length, ← hlen]; simp [vals]) st1 R1 hc' hfz hv rs h1
/-- a call whose last arguments are the defaults -/
theorem le_callD {n : Nat} {df : List (List PV)} {dp : List PV} {m : List Arg → FRes} {f : Str} {x : Addr} {fs : Env → Res (List PV × Env)} (tk : Takes X W) (F : FnAt X.prog X.w X.K X.mg X.base n x df m) (hd : dp ∈ df) (hr : Room n X.A) (hg : Gl X f) (hm : X.mg f = some (.ref x)) (ha : LTs X W (e :: es) fs)
    (hdb : (f == ("__debug__" : Str)) = false) (he : starEach (e :: es) X.env = (false, eval e X.env) :: starEach es X.env) (hpl : (backTo pos (starEach es X.env)).any (·.1) = false) :
    LE X W (.Call (.Name f p) (e :: es) [] pos) (fun env => (fs env).bind fun r => endCall none r.2 (m (vals (r.1 ++ dp)))) := by
  obtain ⟨fd, ps, ok, _, ln, bi⟩ := F.ok
  obtain ⟨ds, dvs, bi, vd, rd⟩ := bi dp hd
  refine PE.imp (pe_callSD ok hr hg hm F.kp bi vd (passAt tk) ha hdb he hpl) ?_
  rintro σ H Q ⟨env, S, As, R, h⟩
  refine liftTs.mono (bindTs Stp.refl R h) ?_
  rintro vs H1 ⟨qs, env1, S1, As1, st1, R1, rs, h1⟩
  have hlen : (vals (qs ++ dp)).length = ps.length := ln _ fun z => by
    dsimp only at h1
    rw [z] at h1
    exact False.elim h1
  have rr := rs.append (rd S1)
  exact call_reading (n := n) (by rw [rr.length, ← hlen]; simp [vals]) st1 R1 (args_vals rr) h1
end
end PL
set_option Elab.async false
set_option linter.all false
set_option maxRecDepth 100000
set_option maxHeartbeats 1000000
namespace PL
open PySem PySem.Spec PyProof.Rows L2
/-! ### what is walked -/
def YOk (K : PySem.W.Frag) (mg : Str → Option Value) (S H : Hp) (x : V) (H3 : Hp) (p : PV) : Prop :=
  (H3 = H ∧ Rp K mg S x p) ∨ ∃ T vs ps, p = .tup ps ∧ x = .ref T ∧ H T = none ∧ H3 = upd H T (.tup vs) ∧ Rps K mg S vs ps
/-- S stays, and what T pins -/
structure WalkOk (K : PySem.W.Frag) (mg : Str → Option Value) (S T : Hp) (J : It) (items : List PV) : Prop where
  item : ∀ H, Same S H → Same T H → ∀ i p, items[i]? = some p → J.go i H ∧ ∀ x H3, J.yld i H x H3 → YOk K mg S H x H3 p
  stop : ∀ H, Same S H → Same T H → ∀ i, items.length ≤ i → J.stop i H
  len : items.length ≤ sizeLine
open Classical in
noncomputable def pin (H : Hp) (B : List Addr) : Hp := fun b => if b ∈ B then H b else none
theorem pin_same {H H' : Hp} {B : List Addr} (h : ∀ b ∈ B, H' b = H b) : Same (pin H B) H' := fun b o e => by
  unfold pin at e
  split at e
  · rename_i hb; rw [h b hb]; exact e
  · cases e
theorem pin_at {H : Hp} {B : List Addr} {b : Addr} (h : b ∈ B) : pin H B b = H b := if_pos h
section
variable {K : PySem.W.Frag} {mg : Str → Option Value} {S S' T : Hp}
theorem YOk.mono {H H3 : Hp} {x : V} {p : PV} (e : Same S S') (h : YOk K mg S H x H3 p) : YOk K mg S' H x H3 p := by
  rcases h with ⟨h1, h2⟩ | ⟨T, vs, ps, h1, h2, h3, h4, h5⟩
  · exact .inl ⟨h1, Rp.mono e _ _ h2⟩
  · exact .inr ⟨T, vs, ps, h1, h2, h3, h4, Rps.mono e _ _ h5⟩
theorem WalkOk.mono {J : It} {items : List PV} (e : Same S S') (h : WalkOk K mg S T J items) : WalkOk K mg S' T J items :=
  ⟨fun H s t i p q => let ⟨a, b⟩ := h.item H (e.trans s) t i p q; ⟨a, fun x H3 y => (b x H3 y).mono e⟩, fun H s => h.stop H (e.trans s), h.len⟩
/-- a list that is pinned -/
theorem walk_pin {a : Addr} {vs : List V} {ps : List PV} (h : T a = some (.lst vs)) (m : Rps K mg S vs ps) (hz : ps.length ≤ sizeLine) : WalkOk K mg S T (Itl K a) ps := by
  refine ⟨fun H s t i p e => ?_, fun H s t i hi => ⟨vs, SqL.of (t _ _ h), by rw [m.length]; exact hi⟩, hz⟩
  obtain ⟨v, e1, e2⟩ := m.get e
  exact ⟨⟨vs, v, SqL.of (t _ _ h), e1⟩, fun x H3 ⟨y1, y2⟩ => .inl ⟨y1, by
    have := (y2 vs (SqL.of (t _ _ h))).symm.trans e1
    cases this
    exact e2⟩⟩
theorem walk_list {a : Addr} {vs : List V} {ps : List PV} (h : SqL K S a vs) (m : Rps K mg S vs ps) (hz : ps.length ≤ sizeLine) : WalkOk K mg S T (Itl K a) ps := by
  refine ⟨fun H s _ i p e => ?_, fun H s _ i hi => ⟨vs, Same.sqL s h, by rw [m.length]; exact hi⟩, hz⟩
  obtain ⟨v, e1, e2⟩ := m.get e
  exact ⟨⟨vs, v, Same.sqL s h, e1⟩, fun x H3 ⟨y1, y2⟩ => .inl ⟨y1, by
    have := (y2 vs (Same.sqL s h)).symm.trans e1
    cases this
    exact e2⟩⟩
theorem walk_tup {a : Addr} {vs : List V} {ps : List PV} (h : SqT K S a vs) (m : Rps K mg S vs ps) (hz : ps.length ≤ sizeLine) : WalkOk K mg S T (Itt K a) ps := by
  refine ⟨fun H s _ i p e => ?_, fun H s _ i hi => ⟨vs, Same.sqT s h, by rw [m.length]; exact hi⟩, hz⟩
  obtain ⟨v, e1, e2⟩ := m.get e
  exact ⟨⟨vs, v, Same.sqT s h, e1⟩, fun x H3 ⟨y1, y2⟩ => .inl ⟨y1, by
    have := (y2 vs (Same.sqT s h)).symm.trans e1
    cases this
    exact e2⟩⟩
theorem rangeP_len : ∀ (n : Nat) (lo : Int), (rangeP lo n).length = n
  | 0, _ => rfl
  | n + 1, lo => by unfold rangeP; rw [List.length_cons, rangeP_len n]
theorem rangeP_get : ∀ (n : Nat) (lo : Int) (i : Nat) (p : PV), (rangeP lo n)[i]? = some p → i < n ∧ p = .int (lo + i)
  | 0, _, _, _, h => by simp [rangeP] at h
  | n + 1, lo, 0, p, h => by
    simp [rangeP] at h
    exact ⟨Nat.succ_pos _, by rw [← h]; simp⟩
  | n + 1, lo, i + 1, p, h => by
    have h : (rangeP (lo + 1) n)[i]? = some p := by simpa [rangeP] using h
    obtain ⟨h1, h2⟩ := rangeP_get n (lo + 1) i p h
    refine ⟨by omega, ?_⟩
    rw [h2]
    congr 1
    push_cast
    omega
theorem walk_range {lo : Int} {n : Nat} (hz : n ≤ sizeLine) : WalkOk K mg S T (Itr lo n) (rangeP lo n) := by
  refine ⟨fun H s _ i p e => ?_, fun H s _ i hi => by rw [rangeP_len] at hi; exact hi, by rw [rangeP_len]; exact hz⟩
  obtain ⟨h1, rfl⟩ := rangeP_get n lo i p e
  exact ⟨h1, fun x H3 ⟨y1, y2⟩ => .inl ⟨y1, by rw [y2]; exact Rp.int _⟩⟩
theorem zipP_get : ∀ (xs ys : List PV) (i : Nat) (p : PV), (zipP xs ys)[i]? = some p → ∃ x y, xs[i]? = some x ∧ ys[i]? = some y ∧ p = .tup [x, y]
  | [], ys, i, p, h => by simp [zipP] at h
  | x :: xs, [], i, p, h => by simp [zipP] at h
  | x :: xs, y :: ys, 0, p, h => by
    simp [zipP] at h
    exact ⟨x, y, rfl, rfl, h.symm⟩
  | x :: xs, y :: ys, i + 1, p, h => zipP_get xs ys i p (by simpa [zipP] using h)
theorem zipP_len : ∀ (xs ys : List PV), (zipP xs ys).length = min xs.length ys.length
  | [], ys => by simp [zipP]
  | x :: xs, [] => by simp [zipP]
  | x :: xs, y :: ys => by simp [zipP, zipP_len xs ys]
theorem walk_zipL {a b : Addr} {vs ws : List V} {ps qs : List PV} (h : SqL K S a vs) (m : Rps K mg S vs ps) (h' : SqL K S b ws) (m' : Rps K mg S ws qs) (hz : ps.length ≤ sizeLine) : WalkOk K mg S T (Itz K a b) (zipP ps qs) := by
  refine ⟨fun H s _ i p e => ?_, fun H s _ i hi => ⟨vs, ws, Same.sqL s h, Same.sqL s h', by rw [zipP_len] at hi; rw [m.length, m'.length]; omega⟩, by rw [zipP_len]; omega⟩
  obtain ⟨x, y, e1, e2, rfl⟩ := zipP_get ps qs i p e
  obtain ⟨v, v1, v2⟩ := m.get e1
  obtain ⟨w, w1, w2⟩ := m'.get e2
  refine ⟨⟨vs, ws, v, w, Same.sqL s h, Same.sqL s h', v1, w1⟩, ?_⟩
  rintro z H3 ⟨T, x', y', rfl, n, rfl, f1, f2⟩
  have a1 := (f1 vs (Same.sqL s h)).symm.trans v1
  have a2 := (f2 ws (Same.sqL s h')).symm.trans w1
  cases a1
  cases a2
  exact .inr ⟨T, _, _, rfl, rfl, n, rfl, Rps.cons v2 (Rps.cons w2 Rps.nil)⟩
theorem walk_zipT {a b : Addr} {vs ws : List V} {ps qs : List PV} (h : SqT K S a vs) (m : Rps K mg S vs ps) (h' : SqT K S b ws) (m' : Rps K mg S ws qs) (hz : ps.length ≤ sizeLine) : WalkOk K mg S T (RZ.ItzT K a b) (zipP ps qs) := by
  refine ⟨fun H s _ i p e => ?_, fun H s _ i hi => ⟨vs, ws, Same.sqT s h, Same.sqT s h', by rw [zipP_len] at hi; rw [m.length, m'.length]; omega⟩, by rw [zipP_len]; omega⟩
  obtain ⟨x, y, e1, e2, rfl⟩ := zipP_get ps qs i p e
  obtain ⟨v, v1, v2⟩ := m.get e1
  obtain ⟨w, w1, w2⟩ := m'.get e2
  refine ⟨⟨vs, ws, v, w, Same.sqT s h, Same.sqT s h', v1, w1⟩, ?_⟩
  rintro z H3 ⟨T, x', y', rfl, n, rfl, f1, f2⟩
  have a1 := (f1 vs (Same.sqT s h)).symm.trans v1
  have a2 := (f2 ws (Same.sqT s h')).symm.trans w1
  cases a1
  cases a2
  exact .inr ⟨T, _, _, rfl, rfl, n, rfl, Rps.cons v2 (Rps.cons w2 Rps.nil)⟩
theorem enumP_get : ∀ (xs : List PV) (k i : Nat) (p : PV), (enumP k xs)[i]? = some p → ∃ x, xs[i]? = some x ∧ p = .tup [.int ((k + i : Nat) : Int), x]
  | [], k, i, p, h => by simp [enumP] at h
  | x :: xs, k, 0, p, h => by
    simp [enumP] at h
    exact ⟨x, rfl, by rw [← h]; rfl⟩
  | x :: xs, k, i + 1, p, h => by
    obtain ⟨y, h1, h2⟩ := enumP_get xs (k + 1) i p (by simpa [enumP] using h)
    refine ⟨y, by simpa using h1, ?_⟩
    rw [h2, show k + 1 + i = k + (i + 1) by omega]
theorem enumP_len : ∀ (xs : List PV) (k : Nat), (enumP k xs).length = xs.length
  | [], k => rfl
  | x :: xs, k => by unfold enumP; rw [List.length_cons, List.length_cons, enumP_len xs]
theorem walk_enum {a : Addr} {vs : List V} {ps : List PV} (h : SqL K S a vs) (m : Rps K mg S vs ps) (hz : ps.length ≤ sizeLine) : WalkOk K mg S T (Ite K a) (enumP 0 ps) := by
  refine ⟨fun H s _ i p e => ?_, fun H s _ i hi => ⟨vs, Same.sqL s h, by rw [enumP_len] at hi; rw [m.length]; exact hi⟩, by rw [enumP_len]; exact hz⟩
  obtain ⟨x, e1, rfl⟩ := enumP_get ps 0 i p e
  obtain ⟨v, v1, v2⟩ := m.get e1
  refine ⟨⟨vs, v, Same.sqL s h, v1⟩, ?_⟩
  rintro z H3 ⟨T, x', rfl, n, rfl, f1⟩
  have a1 := (f1 vs (Same.sqL s h)).symm.trans v1
  cases a1
  refine .inr ⟨T, _, _, rfl, rfl, n, rfl, Rps.cons ?_ (Rps.cons v2 Rps.nil)⟩
  rw [Nat.zero_add]
  exact Rp.int _
end
/-- sequences are no longer than can be -/
def Szs (K : PySem.W.Frag) (H : Hp) : Prop := (∀ a xs, SqL K H a xs → xs.length ≤ sizeLine) ∧ ∀ a xs, SqT K H a xs → xs.length ≤ sizeLine
section
variable {X : Cx}
theorem Inv.szs {pins : List (Addr × Obj)} {σ : L2.St} {H : Hp} {s : Shared} (I : Inv X pins σ H s) : Szs X.K H :=
  ⟨fun a xs h => let ⟨_, _, _, z⟩ := I.list h; z, fun a xs h => let ⟨_, _, _, z⟩ := I.tuple h; z⟩
theorem PA.strong {es : List Expr} {t : TA} (h : PA X es t) : PA X es (fun σ H Q => t σ H fun vs H1 => Szs X.K H1 → Q vs H1) :=
  ⟨fun pos pins s σ H Q I q => thn (h.run pos pins s σ H _ I q) fun us s' ⟨vs, H1, I1, r, q1⟩ => ⟨vs, H1, I1, r, q1 (Inv.szs I1)⟩⟩
theorem PE.strong {e : Expr} {t : TE} (h : PE X e t) : PE X e (fun σ H Q => t σ H fun v H1 => Szs X.K H1 → Q v H1) :=
  ⟨fun pins s σ H Q I q => thn (h.run pins s σ H _ I q) fun u s' ⟨v, H1, I1, r, q1⟩ => ⟨v, H1, I1, r, q1 (Inv.szs I1)⟩⟩
theorem PI.imp {tg e : Expr} {t t' : TI} (h : PI X tg e t) (f : ∀ σ H Q, t' σ H Q → t σ H Q) : PI X tg e t' := ⟨fun pins s σ H Q I q => h.run pins s σ H Q I (f σ H Q q)⟩
theorem PI.or {tg e : Expr} {te : TE} (hl : PE X e te) : PI X tg e (fun σ H R => te σ H fun x H1 => ∃ a, x = .ref a ∧ (((∃ xs, SqL X.K H1 a xs) ∧ R (Itl X.K a) H1) ∨ ((∃ xs, SqT X.K H1 a xs) ∧ R (Itt X.K a) H1) ∨ ∃ ob ks, H1 a = some (.frz ob (.dK ks)) ∧ R (Itk a ob ks) H1)) := by
  refine ⟨fun pins s σ H R I h => ?_⟩
  refine thn (hl.run pins s σ H _ I h) fun v s1 ⟨x, H1, I1, r1, q1⟩ => ?_
  obtain ⟨a, e, q⟩ := q1
  subst e
  cases r1
  rcases q with ⟨⟨xs, hq⟩, q⟩ | ⟨⟨xs, hq⟩, q⟩ | ⟨ob, ks, hd, q⟩
  · obtain ⟨its, rv, p, hz⟩ := I1.list hq
    refine wpAny_pyIter_list p.isList ?_
    refine ⟨s1.heap.objs.size, [s1.heap.objs.size], _, _, H1, rfl, I1.kept (t' := s1.toks) fun b o e => Heap.get?_push_of_some _ e, turn_list a _, ⟨_, Heap.get?_push_size _ rfl, rfl, rfl⟩, fun b hb => ?_, q⟩
    have e : b = s1.heap.objs.size := by simpa using hb
    subst e
    exact I1.fpOk (Nat.le_refl _) (I1.hok.fresh (Nat.le_refl _))
  · obtain ⟨its, rv, p, hz⟩ := I1.tuple hq
    refine wpAny_pyIter_tuple (show s1.heap.IsTuple a its.toArray from p) ?_
    refine ⟨s1.heap.objs.size, [s1.heap.objs.size], _, _, H1, rfl, I1.kept (t' := s1.toks) fun b o e => Heap.get?_push_of_some _ e, turn_tuple a _, ⟨_, Heap.get?_push_size _ rfl, rfl, rfl⟩, fun b hb => ?_, q⟩
    have e : b = s1.heap.objs.size := by simpa using hb
    subst e
    exact I1.fpOk (Nat.le_refl _) (I1.hok.fresh (Nat.le_refl _))
  · obtain ⟨hs, hgd, hx, es, ep, vs, hdt, hsz, kv, hm⟩ := I1.frzK hd
    refine iter_keys hs hgd hx hdt (pi_one (tk := s1.toks) I1 _ (turn_keys _ hdt) ⟨_, Heap.get?_push_size _ rfl, rfl, ?_⟩ q)
    rw [hsz] <;> rfl
theorem walk_keys {K : PySem.W.Frag} {mg : Str → Option Value} {S T : Hp} {a : Addr} {ob : Obj} {ks : List (L2.Key × V)} {kvs : List (List L2.Key × PV)} (h : S a = some (.frz ob (.dK ks))) (m : Rpd K mg S (ks.map fun p => ([p.1], p.2)) kvs) (hz : kvs.length ≤ sizeLine) : WalkOk K mg S T (Itk a ob ks) (kvs.map fun kv => ofK false kv.1) := by
  have hl : ∀ {kvs : List (List L2.Key × PV)} {ks : List (L2.Key × V)}, Rpd K mg S (ks.map fun p => ([p.1], p.2)) kvs → ks.length = kvs.length ∧ ∀ (i : Nat) (p : PV), (kvs.map fun kv => ofK false kv.1)[i]? = some p → ∃ (k : L2.Key) (v : V), ks[i]? = some (k, v) ∧ p = ofA k := by
    intro kvs
    induction kvs with
    | nil =>
      intro ks h
      unfold Rpd at h
      have : ks = [] := by simpa using h
      subst this
      exact ⟨rfl, fun i p e => by simp at e⟩
    | cons q r ih =>
      intro ks h
      obtain ⟨k', p'⟩ := q
      unfold Rpd at h
      obtain ⟨v, r', h0, h1, h2⟩ := h
      cases ks with
      | nil => cases h0
      | cons z zs =>
        rw [List.map_cons] at h0
        cases h0
        obtain ⟨i1, i2⟩ := ih h2
        refine ⟨by simp [i1], fun i p e => ?_⟩
        cases i with
        | zero =>
          simp only [List.map_cons, List.getElem?_cons_zero, Option.some.injEq] at e
          exact ⟨z.1, z.2, rfl, e.symm⟩
        | succ i =>
          simp only [List.map_cons, List.getElem?_cons_succ] at e ⊢
          exact i2 i p e
  obtain ⟨l1, l2⟩ := hl m
  refine ⟨fun H s _ i p e => ?_, fun H s _ i hi => ⟨s _ _ h, by rw [List.length_map] at hi; omega⟩, by rw [List.length_map]; exact hz⟩
  obtain ⟨k, v, e1, rfl⟩ := l2 i p e
  refine ⟨⟨s _ _ h, (List.getElem?_eq_some_iff.mp e1).1⟩, fun x H3 ⟨y1, k', v', y2, y3⟩ => .inl ⟨y1, ?_⟩⟩
  rw [e1] at y2
  cases y2
  subst y3
  cases k with
  | inl i => exact Rp.int i
  | inr x => show Rp K mg S (.str x) (.str x); unfold Rp; rfl
end
def KI (K : PySem.W.Frag) (mg : Str → Option Value) (σ : SlotV) (H S : Hp) (As : Fp) (R : It → Hp → Prop) (ir : List PV × RV) (env : Env) : Prop :=
  ∀ J H' S' As' v B, Stp H S As H' S' As' → Rel K mg σ env H' S' As' → RvOk K mg σ H' S' As' v ir.2 B → (∀ b ∈ B, H b = none ∨ Own As b) → WalkOk K mg S' (pin H' B) J ir.1 → R J H'
def liftI (K : PySem.W.Frag) (mg : Str → Option Value) (W : WX) (f : Env → Res ((List PV × RV) × Env)) : TI := fun σ H R => ∃ env S As, Rel K mg σ env H S As ∧ Post K mg W H S As (f env) (KI K mg σ H S As R)
abbrev LI (X : Cx) (W : WX) (tg e : Expr) (f : Env → Res ((List PV × RV) × Env)) : Prop := PI X tg e (liftI X.K X.mg W f)
section
variable {X : Cx} {W : WX} {a b e tg : Expr} {es : List Expr} {p pos : Pos}
theorem liftI.mono {K : PySem.W.Frag} {mg : Str → Option Value} {σ : SlotV} {H : Hp} {f : Env → Res ((List PV × RV) × Env)} {Q Q' : It → Hp → Prop} (h : liftI K mg W f σ H Q) (hq : ∀ v H, Q v H → Q' v H) : liftI K mg W f σ H Q' :=
  let ⟨env, S, As, R, p⟩ := h
  ⟨env, S, As, R, p.mono fun _ _ k J H' S' As' v B a b c d e => hq _ _ (k J H' S' As' v B a b c d e)⟩
theorem bindI {K : PySem.W.Frag} {mg : Str → Option Value} {σ : SlotV} {env : Env} {H S H₀ S₀ : Hp} {As As₀ : Fp} {β : Type} {f : Env → Res ((List PV × RV) × Env)} {g : (List PV × RV) × Env → Res (β × Env)} {k : β → Env → Prop} (st : Stp H₀ S₀ As₀ H S As) (R : Rel K mg σ env H S As) (h : Post K mg W H₀ S₀ As₀ ((f env).bind g) k) :
    liftI K mg W f σ H fun J H1 => ∃ items keep env1 S1 As1 v B, Stp H S As H1 S1 As1 ∧ Rel K mg σ env1 H1 S1 As1 ∧ RvOk K mg σ H1 S1 As1 v keep B ∧ (∀ b ∈ B, H b = none ∨ Own As b) ∧ WalkOk K mg S1 (pin H1 B) J items ∧ Post K mg W H₀ S₀ As₀ (g ((items, keep), env1)) k :=
  ⟨env, S, As, R, (Post.part st h).mono fun its e p J H' S' As' v B a c d fr wk => ⟨its.1, its.2, e, S', As', v, B, a, c, d, fr, wk, p⟩⟩
theorem keep0 {K : PySem.W.Frag} {mg : Str → Option Value} {σ : SlotV} {H S : Hp} {As : Fp} : RvOk K mg σ H S As .non (.val .non) [] := ⟨Rp.non, rfl⟩
theorem li_seq {fe : Env → Res (RV × Env)} (he : LE X W e fe) : LI X W tg e (itsV fe) := by
  refine PI.imp (PI.or (PE.strong he)) ?_
  rintro σ H R ⟨env, S, As, Rl, h⟩
  refine liftE.mono (bindE Stp.refl Rl h) ?_
  rintro v H1 ⟨rv, env1, S1, As1, B1, st1, R1, ok1, fr1, h1⟩ sz
  have tkI_ok : Post X.K X.mg W H S As (tkI (rv, env1)) (KI X.K X.mg σ H S As R) → ∃ a, v = V.ref a ∧ (((∃ xs, SqL X.K H1 a xs) ∧ R (Itl X.K a) H1) ∨ ((∃ xs, SqT X.K H1 a xs) ∧ R (Itt X.K a) H1) ∨ ∃ ob ks, H1 a = some (.frz ob (.dK ks)) ∧ R (Itk a ob ks) H1) := by
    intro h1
    obtain ⟨⟨q, env2⟩, e1, h1⟩ := h1.opt
    obtain ⟨S2, As2, R2, st2, rp, sm, _⟩ := take_ok R1 ok1 st1 fr1 e1
    obtain ⟨xs, e2, h1⟩ := h1.opt
    have fin : ∀ J, WalkOk X.K X.mg S2 (pin H1 []) J xs → R J H1 := fun J w => h1 J H1 S2 As2 .non [] st2 R2 keep0 (fun b hb => by cases hb) w
    cases q with
    | tup ps =>
      cases e2
      obtain ⟨a, vs, rfl, t, m⟩ := rp_tup rp
      exact ⟨a, rfl, .inr (.inl ⟨⟨vs, Same.sqT R2.sub t⟩, fin _ (walk_tup t m (by rw [← m.length]; exact sz.2 a vs (Same.sqT R2.sub t)))⟩)⟩
    | lst ps =>
      cases e2
      obtain ⟨a, vs, rfl, t, m⟩ := rp_lst rp
      exact ⟨a, rfl, .inl ⟨⟨vs, Same.sqL R2.sub (SqL.of t)⟩, fin _ (walk_list (SqL.of t) m (by rw [← m.length]; exact sz.1 a vs (Same.sqL R2.sub (SqL.of t))))⟩⟩
    | scr ns =>
      cases e2
      obtain ⟨a, rfl, t⟩ := rp_scr rp
      exact ⟨a, rfl, .inl ⟨⟨_, Same.sqL R2.sub t⟩, fin _ (walk_list t (Rps.ints ns) (by have := sz.1 a _ (Same.sqL R2.sub t); rw [List.length_map] at this ⊢; exact this))⟩⟩
    | dcl kvs =>
      have e2 : (if kvs.length ≤ sizeLine then some (kvs.map fun kv => ofK false kv.1) else none) = some xs := e2
      split at e2
      · rename_i hz
        cases e2
        obtain ⟨a, ws, rfl, ⟨ob, ks, d1, rfl⟩, d2⟩ := rp_dcl rp
        exact ⟨a, rfl, .inr (.inr ⟨ob, ks, R2.sub _ _ d1, fin _ (walk_keys d1 d2 hz)⟩)⟩
      · cases e2
    | _ => cases e2
  /- a list that is borrowed meanwhile -/
  have brw_ok : ∀ {j : Nat} {p : List PSt} {c d : Cell} {env2 : Env} {As2 : Fp} {B : List Addr} {xs : List PV}, Stp H S As H1 S1 As2 → Rel X.K X.mg σ env2 H1 S1 As2 → RvOk X.K X.mg σ H1 S1 As2 v (.brw j p c) B → (∀ b ∈ B, H b = none ∨ Own As b) → getC c p = some d → flat d = true → itemsP d.pv = some xs →
      KI X.K X.mg σ H S As R (xs, .brw j p c) env2 → ∃ a, v = V.ref a ∧ (((∃ xs, SqL X.K H1 a xs) ∧ R (Itl X.K a) H1) ∨ ((∃ xs, SqT X.K H1 a xs) ∧ R (Itt X.K a) H1) ∨ ∃ ob ks, H1 a = some (.frz ob (.dK ks)) ∧ R (Itk a ob ks) H1) := by
    intro j p c d env2 As2 B xs st2 R2 ok2 fr2 hd hf hx h1
    obtain ⟨v0, d0, h0, k1, hg, k2, k3, k4⟩ := id ok2
    obtain ⟨w, B0, m1, m2, m3, _⟩ := k1.part hd
    obtain rfl : w = v := AtP.inj m1 k2
    have lp : ∀ (a : Addr) (vs : List V) (ps : List PV), w = .ref a → H1 a = some (.lst vs) → Rps X.K X.mg S1 vs ps → xs = ps → a ∈ B → ∃ a, w = V.ref a ∧ (((∃ xs, SqL X.K H1 a xs) ∧ R (Itl X.K a) H1) ∨ ((∃ xs, SqT X.K H1 a xs) ∧ R (Itt X.K a) H1) ∨ ∃ ob ks, H1 a = some (.frz ob (.dK ks)) ∧ R (Itk a ob ks) H1) := by
      rintro a vs ps rfl g1 g2 rfl ha
      refine ⟨a, rfl, .inl ⟨⟨vs, SqL.of g1⟩, h1 _ H1 S1 As2 _ B st2 R2 ok2 fr2 (walk_pin ((pin_at ha).trans g1) g2 (by rw [← g2.length]; exact sz.1 a vs (SqL.of g1)))⟩⟩
    cases d with
    | lst ps =>
      cases hx
      unfold CellOk at m2
      obtain ⟨a, vs, rfl, g1, g2, rfl⟩ := m2
      exact lp a vs _ rfl g1 g2 rfl (m3 a List.mem_cons_self)
    | ls cs =>
      cases hx
      unfold CellOk at m2
      obtain ⟨a, vs, Bs, rfl, g1, g2, g3, rfl⟩ := m2
      exact lp a vs _ rfl g1 (g2.flat hf) rfl (m3 a List.mem_cons_self)
    | fz q =>
      unfold CellOk at m2
      have m2 := m2.1
      unfold Cell.pv at hx
      have fin : ∀ J, WalkOk X.K X.mg S1 (pin H1 B) J xs → R J H1 := fun J wk => h1 J H1 S1 As2 _ B st2 R2 ok2 fr2 wk
      cases q with
      | tup ps =>
        cases hx
        obtain ⟨a, vs, rfl, t, m⟩ := rp_tup m2
        exact ⟨a, rfl, .inr (.inl ⟨⟨vs, Same.sqT R2.sub t⟩, fin _ (walk_tup t m (by rw [← m.length]; exact sz.2 a vs (Same.sqT R2.sub t)))⟩)⟩
      | lst ps =>
        cases hx
        obtain ⟨a, vs, rfl, t, m⟩ := rp_lst m2
        exact ⟨a, rfl, .inl ⟨⟨vs, Same.sqL R2.sub (SqL.of t)⟩, fin _ (walk_list (SqL.of t) m (by rw [← m.length]; exact sz.1 a vs (Same.sqL R2.sub (SqL.of t))))⟩⟩
      | scr ns =>
        cases hx
        obtain ⟨a, rfl, t⟩ := rp_scr m2
        exact ⟨a, rfl, .inl ⟨⟨_, Same.sqL R2.sub t⟩, fin _ (walk_list t (Rps.ints ns) (by have := sz.1 a _ (Same.sqL R2.sub t); rw [List.length_map] at this ⊢; exact this))⟩⟩
      | dcl kvs =>
        have hx : (if kvs.length ≤ sizeLine then some (kvs.map fun kv => ofK false kv.1) else none) = some xs := hx
        split at hx
        · rename_i hz
          cases hx
          obtain ⟨a, ws, rfl, ⟨ob, ks, d1, rfl⟩, d2⟩ := rp_dcl m2
          exact ⟨a, rfl, .inr (.inr ⟨ob, ks, R2.sub _ _ d1, fin _ (walk_keys d1 d2 hz)⟩)⟩
        · cases hx
      | _ => cases hx
    | dct b kvs => cases hx
    | obj C fs => cases hx
  unfold itI at h1
  dsimp only at h1
  cases rv with
  | val q => exact tkI_ok h1
  | new q => exact tkI_ok h1
  | loc j =>
    dsimp only at h1
    cases hg : get env1 j with
    | none => rw [hg] at h1; exact False.elim h1
    | some c =>
      rw [hg] at h1
      dsimp only at h1
      by_cases hf : flat c = true
      · rw [if_pos hf] at h1
        obtain ⟨xs, e2, h1⟩ := h1.opt
        obtain ⟨As4, B4, R4, st4, ok4, fr4, _⟩ := borrow_ok R1 st1 ok1.1 hg (p := []) (d := c) (w := v) (by unfold getC; rfl) rfl
        exact brw_ok st4 R4 ok4 fr4 (by unfold getC; rfl) hf e2 h1
      · rw [if_neg hf] at h1
        exact tkI_ok h1
  | brw j p c =>
    dsimp only at h1
    cases hg : getC c p with
    | none => rw [hg] at h1; exact False.elim h1
    | some d =>
      rw [hg] at h1
      dsimp only at h1
      by_cases hf : flat d = true
      · rw [if_pos hf] at h1
        obtain ⟨xs, e2, h1⟩ := h1.opt
        exact brw_ok st1 R1 ok1 fr1 hg hf e2 h1
      · rw [if_neg hf] at h1
        exact tkI_ok h1
theorem rvs_one {K : PySem.W.Frag} {mg : Str → Option Value} {σ : SlotV} {H S : Hp} {As : Fp} {vs : List V} {i : Int} {B : List Addr} (h : RvsOk K mg σ H S As vs [.val (.int i)] B) : vs = [.int i] := by
  obtain ⟨v, r, B1, B2, rfl, rfl, h1, ⟨rfl, _⟩, _⟩ := h
  rw [rp_int h1.1]
theorem rvs_two {K : PySem.W.Frag} {mg : Str → Option Value} {σ : SlotV} {H S : Hp} {As : Fp} {vs : List V} {i j : Int} {B : List Addr} (h : RvsOk K mg σ H S As vs [.val (.int i), .val (.int j)] B) : vs = [.int i, .int j] := by
  obtain ⟨v, r, B1, B2, rfl, rfl, h1, h2, _⟩ := h
  rw [rp_int h1.1, rvs_one h2]
theorem li_range1 {fs : Env → Res (List RV × Env)} (hg : Gl X "range") (hm : X.mg "range" = none) (ha : LHs X W [a] fs) (hl : ∀ env r, fs env = .ok r → r.1.length = 1) (hs : starEach [a] X.env = [(false, eval a X.env)]) :
    LI X W tg (.Call (.Name "range" p) [a] [] pos) (rngV fs) := by
  refine PI.imp (pi_range1 hg hm ha hs) ?_
  rintro σ H R ⟨env, S, As, Rl, h⟩
  have h' : Post X.K X.mg W H S As ((fs env).bind fun r => match r.1 with
      | [.val (.int j)] => if bnd j ∧ j.toNat ≤ sizeLine then .ok ((rangeP 0 j.toNat, .val .non), r.2) else .stuck
      | _ => .stuck) (KI X.K X.mg σ H S As R) := by
    have := hl env
    unfold rngV at h
    revert h this
    cases fs env with
    | ok r =>
      intro h this
      have := this r rfl
      obtain ⟨rs, e⟩ := r
      match rs, this with
      | [x], _ => cases x with
        | val q => cases q <;> exact h
        | loc j => exact h
        | new c => exact h
        | brw j p c => exact h
    | exc C gs e => exact fun h _ => h
    | stuck => exact fun h _ => h
  refine liftHs.mono (bindHs Stp.refl Rl h') ?_
  rintro vs H1 ⟨rs, env1, S1, As1, B1, st1, R1, ok1, fr1, h1⟩
  split at h1
  · rename_i j e
    obtain rfl : rs = [.val (.int j)] := e
    split at h1
    · rename_i hc
      refine ⟨j, rvs_one ok1, hc.1.1, hc.1.2, ?_⟩
      exact h1 _ H1 S1 As1 .non [] st1 R1 keep0 (fun b hb => by cases hb) (walk_range hc.2)
    · exact False.elim h1
  · exact False.elim h1
theorem li_range2 {fs : Env → Res (List RV × Env)} (hg : Gl X "range") (hm : X.mg "range" = none) (ha : LHs X W [a, b] fs) (hl : ∀ env r, fs env = .ok r → r.1.length = 2) (hs : starEach [a, b] X.env = [(false, eval a X.env), (false, eval b X.env)]) (hs2 : starEach [b] X.env = [(false, eval b X.env)]) :
    LI X W tg (.Call (.Name "range" p) [a, b] [] pos) (rngV fs) := by
  refine PI.imp (pi_range2 hg hm ha hs hs2) ?_
  rintro σ H R ⟨env, S, As, Rl, h⟩
  have h' : Post X.K X.mg W H S As ((fs env).bind fun r => match r.1 with
      | [.val (.int i), .val (.int j)] => if bnd i ∧ bnd j ∧ (j - i).toNat ≤ sizeLine then .ok ((rangeP i (j - i).toNat, .val .non), r.2) else .stuck
      | _ => .stuck) (KI X.K X.mg σ H S As R) := by
    have := hl env
    unfold rngV at h
    revert h this
    cases fs env with
    | ok r =>
      intro h this
      have := this r rfl
      obtain ⟨rs, e⟩ := r
      match rs, this with
      | [x, y], _ => cases x with
        | val q => cases q <;> (cases y with
          | val q => cases q <;> exact h
          | loc j => exact h
          | new c => exact h
          | brw j p c => exact h)
        | loc j => cases y <;> exact h
        | new c => cases y <;> exact h
        | brw j p c => cases y <;> exact h
    | exc C gs e => exact fun h _ => h
    | stuck => exact fun h _ => h
  refine liftHs.mono (bindHs Stp.refl Rl h') ?_
  rintro vs H1 ⟨rs, env1, S1, As1, B1, st1, R1, ok1, fr1, h1⟩
  split at h1
  · rename_i i j e
    obtain rfl : rs = [.val (.int i), .val (.int j)] := e
    split at h1
    · rename_i hc
      refine ⟨i, j, rvs_two ok1, ⟨hc.1.1, hc.1.2, hc.2.1.1, hc.2.1.2⟩, ?_⟩
      exact h1 _ H1 S1 As1 .non [] st1 R1 keep0 (fun b hb => by cases hb) (walk_range hc.2.2)
    · exact False.elim h1
  · exact False.elim h1
theorem li_zip {fs : Env → Res (List PV × Env)} {elts : List Expr} {kk : Nat} {tpos : Pos} (hg : Gl X "zip") (hm : X.mg "zip" = none) (ha : LTs X W [a, b] fs) (hs : starEach [a, b] X.env = (false, eval a X.env) :: starEach [b] X.env) (hpl : (backTo pos (starEach [b] X.env)).any (·.1) = false) :
    LI X W (.Tuple elts kk tpos) (.Call (.Name "zip" p) [a, b] [] pos) (zipV fs) := by
  refine PI.imp (RZ.pi_zipA hg hm (PA.strong ha) hs hpl) ?_
  rintro σ H R ⟨env, S, As, Rl, h⟩
  refine liftTs.mono (bindTs Stp.refl Rl h) ?_
  rintro vs H1 ⟨ps, env1, S1, As1, st1, R1, rs, h1⟩ sz
  split at h1
  · rename_i xs ys e
    obtain rfl : ps = [.lst xs, .lst ys] := e
    obtain ⟨v, w, rfl, r1, r2⟩ := rps_two rs
    obtain ⟨a, vs, rfl, t, m⟩ := rp_lst r1
    obtain ⟨b, ws, rfl, t', m'⟩ := rp_lst r2
    have q1 := Same.sqL R1.sub (SqL.of (K := X.K) t)
    have q2 := Same.sqL R1.sub (SqL.of (K := X.K) t')
    exact ⟨a, b, vs, ws, rfl, .inl ⟨q1, q2, h1 _ H1 S1 As1 .non [] st1 R1 keep0 (fun b hb => by cases hb) (walk_zipL (SqL.of t) m (SqL.of t') m' (by rw [← m.length]; exact sz.1 a vs q1))⟩⟩
  · rename_i xs ys e
    obtain rfl : ps = [.tup xs, .tup ys] := e
    obtain ⟨v, w, rfl, r1, r2⟩ := rps_two rs
    obtain ⟨a, vs, rfl, t, m⟩ := rp_tup r1
    obtain ⟨b, ws, rfl, t', m'⟩ := rp_tup r2
    have q1 := Same.sqT R1.sub t
    have q2 := Same.sqT R1.sub t'
    exact ⟨a, b, vs, ws, rfl, .inr ⟨q1, q2, h1 _ H1 S1 As1 .non [] st1 R1 keep0 (fun b hb => by cases hb) (walk_zipT t m t' m' (by rw [← m.length]; exact sz.2 a vs q1))⟩⟩
  · exact False.elim h1
theorem li_enum {fs : Env → Res (List PV × Env)} {elts : List Expr} {kk : Nat} {tpos : Pos} (hg : Gl X "enumerate") (hm : X.mg "enumerate" = none) (ha : LTs X W [a] fs) (hs : starEach [a] X.env = [(false, eval a X.env)]) :
    LI X W (.Tuple elts kk tpos) (.Call (.Name "enumerate" p) [a] [] pos) (enuV fs) := by
  refine PI.imp (pi_enum hg hm (PA.strong ha) hs) ?_
  rintro σ H R ⟨env, S, As, Rl, h⟩
  refine liftTs.mono (bindTs Stp.refl Rl h) ?_
  rintro vs H1 ⟨ps, env1, S1, As1, st1, R1, rs, h1⟩ sz
  split at h1
  · rename_i xs e
    obtain rfl : ps = [.lst xs] := e
    obtain ⟨v, rfl, r1⟩ := rps_one rs
    obtain ⟨a, vs, rfl, t, m⟩ := rp_lst r1
    have q1 := Same.sqL R1.sub (SqL.of (K := X.K) t)
    exact ⟨a, vs, rfl, q1, h1 _ H1 S1 As1 .non [] st1 R1 keep0 (fun b hb => by cases hb) (walk_enum (SqL.of t) m (by rw [← m.length]; exact sz.1 a vs q1))⟩
  · exact False.elim h1
end
/-! ### targets -/
mutual
/-- the slots that a target stores -/
def tgs : Tg → List Nat
  | .nm i => [i]
  | .tup ts => tgss ts
  | .ix _ _ => []
  | .att _ _ => []
def tgss : Tgs → List Nat
  | .nil => []
  | .cons t ts => tgs t ++ tgss ts
end
/-- slots but these are as they were -/
def Kept (σ σ' : SlotV) (is : List Nat) : Prop := σ'.length = σ.length ∧ ∀ j, j ∉ is → σ'[j]? = σ[j]?
def KG (K : PySem.W.Frag) (mg : Str → Option Value) (is : List Nat) (σ : SlotV) (H S : Hp) (As : Fp) (Q : L2.St → Hp → Prop) (env : Env) : Prop :=
  ∀ σ' H' S' As', Kept σ σ' is → Stp H S As H' S' As' → Rel K mg σ' env H' S' As' → Q σ' H'
def PostG (K : PySem.W.Frag) (mg : Str → Option Value) (W : WX) (H S : Hp) (As : Fp) (r : Res Env) (k : Env → Prop) : Prop := Post K mg W H S As (r.bind fun e => .ok ((), e)) fun _ e => k e
def liftG (K : PySem.W.Frag) (mg : Str → Option Value) (W : WX) (is : List Nat) (f : PV → Env → Res Env) : TG := fun v σ H Q => ∃ env S As p, Rel K mg σ env H S As ∧ Rp K mg S v p ∧ PostG K mg W H S As (f p env) (KG K mg is σ H S As Q)
def liftGs (K : PySem.W.Frag) (mg : Str → Option Value) (W : WX) (is : List Nat) (f : List PV → Env → Res Env) : TGs := fun vs σ H Q => ∃ env S As ps, Rel K mg σ env H S As ∧ Rps K mg S vs ps ∧ PostG K mg W H S As (f ps env) (KG K mg is σ H S As Q)
abbrev LG (X : Cx) (W : WX) (tg : Expr) (t : Tg) (f : PV → Env → Res Env) : Prop := PG X tg (liftG X.K X.mg W (tgs t) f)
abbrev LGs (X : Cx) (W : WX) (es : List Expr) (ts : Tgs) (f : List PV → Env → Res Env) : Prop := PGs X es (liftGs X.K X.mg W (tgss ts) f)
section
variable {X : Cx} {W : WX} {a b e tg : Expr} {es : List Expr} {pos : Pos}
theorem PG.imp {tg : Expr} {t t' : TG} (h : PG X tg t) (f : ∀ v σ H Q, t' v σ H Q → t v σ H Q) : PG X tg t' := ⟨fun pins s σ H v u Q I r q => h.run pins s σ H v u Q I r (f v σ H Q q)⟩
theorem PGs.imp {tg : List Expr} {t t' : TGs} (h : PGs X tg t) (f : ∀ v σ H Q, t' v σ H Q → t v σ H Q) : PGs X tg t' := ⟨fun pins s σ H v u Q I r q => h.run pins s σ H v u Q I r (f v σ H Q q)⟩
theorem Kept.refl (σ : SlotV) (is : List Nat) : Kept σ σ is := ⟨rfl, fun _ _ => rfl⟩
theorem Kept.trans {σ σ' σ'' : SlotV} {is js : List Nat} (a : Kept σ σ' is) (b : Kept σ' σ'' js) : Kept σ σ'' (is ++ js) :=
  ⟨b.1.trans a.1, fun j n => (b.2 j fun z => n (List.mem_append_right _ z)).trans (a.2 j fun z => n (List.mem_append_left _ z))⟩
/-- a plain value stored -/
theorem Rel.store {K : PySem.W.Frag} {mg : Str → Option Value} {σ : SlotV} {env : Env} {H S : Hp} {As : Fp} (R : Rel K mg σ env H S As) {i : Nat} {v : V} {p : PV} (hi : i < env.length) (h : Rp K mg S v p) :
    Rel K mg (σ.set i (some v)) (env.set i (some (.fz p))) H S (updF As i []) ∧ Stp H S As H S (updF As i []) := by
  refine ⟨R.chg hi R.sub (Same.refl _) (fun _ _ _ _ => rfl) (fun j b _ hb => R.free b ⟨j, hb⟩) (by unfold CellOk; exact ⟨h, rfl⟩) (fun b hb => by cases hb) (fun _ a r z => by cases z), Same.refl _, fun b o q _ => q, fun b hb => ?_, fun b hb => .inl hb, rfl⟩
  obtain ⟨k, hk⟩ := hb
  by_cases q : k = i
  · subst q; rw [updF_same] at hk; cases hk
  · rw [updF_ne q] at hk; exact .inl ⟨k, hk⟩
theorem lg_name {i : Nat} {x : Str} (hN : X.N.Nodup) (hi : X.N[i]? = some x) (hx : Loc X.env.scope x) (hf : X.fn x = true ∨ X.env.scope.names.lookup x = some .local) : LG X W (.Name x pos) (.nm i) (fun p env => if i < env.length then .ok (env.set i (some (.fz p))) else .stuck) := by
  refine PG.imp (pg_name hN hi hx hf) ?_
  rintro v σ H Q ⟨env, S, As, p, R, r, h⟩
  dsimp only at h
  split at h
  · rename_i hl
    obtain ⟨R', st'⟩ := R.store hl r
    exact h _ _ _ _ ⟨by simp, fun j n => List.getElem?_set_ne fun e => n (by simp [tgs, e])⟩ st' R'
  · exact False.elim h
theorem lgs_nil : LGs X W [] .nil (fun xs env => match xs with
    | [] => .ok env
    | _ => .stuck) := by
  refine PGs.imp pgs_nil ?_
  rintro vs σ H Q ⟨env, S, As, ps, R, r, h⟩
  cases ps with
  | nil =>
    have : vs = [] := by unfold Rps at r; exact r
    exact ⟨this, h σ H S As (Kept.refl _ _) Stp.refl R⟩
  | cons p ps => exact False.elim h
theorem PostG.next {K : PySem.W.Frag} {mg : Str → Option Value} {H S : Hp} {As : Fp} {H₀ S₀ : Hp} {As₀ : Fp} {r : Res Env} {g : Env → Res Env} {k : Env → Prop} (st : Stp H₀ S₀ As₀ H S As) (h : PostG K mg W H₀ S₀ As₀ (r.bind g) k) :
    PostG K mg W H S As r fun e => PostG K mg W H₀ S₀ As₀ (g e) k := by
  cases r with
  | ok e => exact h
  | exc C gs e => exact fun σ H' S' As' cls d s => h σ H' S' As' cls d (st.trans s)
  | stuck => exact h
theorem PostG.weak {K : PySem.W.Frag} {mg : Str → Option Value} {H S : Hp} {As : Fp} {H₀ S₀ : Hp} {As₀ : Fp} {r : Res Env} {k : Env → Prop} (st : Stp H₀ S₀ As₀ H S As) (h : PostG K mg W H₀ S₀ As₀ r k) : PostG K mg W H S As r k := by
  cases r with
  | ok e => exact h
  | exc C gs e => exact fun σ H' S' As' cls d s => h σ H' S' As' cls d (st.trans s)
  | stuck => exact h
theorem PostG.imp {K : PySem.W.Frag} {mg : Str → Option Value} {H S : Hp} {As : Fp} {r : Res Env} {k k' : Env → Prop} (h : PostG K mg W H S As r k) (f : ∀ e, k e → k' e) : PostG K mg W H S As r k' := by
  cases r with
  | ok e => exact f _ h
  | exc C gs e => exact h
  | stuck => exact h
theorem lgs_cons {t : Tg} {ts : Tgs} {f : PV → Env → Res Env} {g : List PV → Env → Res Env} (h1 : LG X W e t f) (h2 : LGs X W es ts g) (hs : (assignEach (e :: es) X.env).map (·.2) = assign e X.env :: (assignEach es X.env).map (·.2)) :
    LGs X W (e :: es) (.cons t ts) (fun xs env => match xs with
    | x :: xs => (f x env).bind fun e1 => g xs e1
    | [] => .stuck) := by
  refine PGs.imp (pgs_cons h1 h2 hs) ?_
  rintro vs σ H Q ⟨env, S, As, ps, R, r, h⟩
  cases ps with
  | nil => exact False.elim h
  | cons p ps =>
    obtain ⟨v, vr, rfl, r1, r2⟩ := r.uncons
    refine ⟨v, vr, rfl, env, S, As, p, R, r1, (PostG.next Stp.refl h).mono ?_⟩
    intro _ env1 h1 σ1 H1 S1 As1 kp1 st1 R1
    refine ⟨env1, S1, As1, ps, R1, Rps.mono st1.same _ _ r2, ?_⟩
    refine (PostG.weak st1 h1).imp ?_
    intro env2 h2 σ2 H2 S2 As2 kp2 st2 R2
    exact h2 σ2 H2 S2 As2 (kp1.trans kp2) (st1.trans st2) R2
theorem lg_tup {ts : Tgs} {k n : Nat} {g : List PV → Env → Res Env} (hc : X.calm = true) (h : LGs X W es ts g) (hn : (assignEach es X.env).length = n) (hst : (assignEach es X.env).findIdx? (·.1) = none) (hlen : ∀ ps env, g ps env ≠ .stuck → ps.length = n) :
    LG X W (.Tuple es k pos) (.tup ts) (fun p env => match p with
    | .tup xs => g xs env
    | _ => .stuck) := by
  refine PG.imp (pg_tup hc h hn hst) ?_
  rintro v σ H Q ⟨env, S, As, p, R, r, h⟩
  cases p with
  | tup xs =>
    obtain ⟨a, vs, rfl, t, m⟩ := rp_tup r
    have hl : xs.length = n := hlen xs env fun z => by
      have h : PostG X.K X.mg W H S As (g xs env) _ := h
      rw [z] at h
      exact False.elim h
    exact ⟨a, vs, rfl, Same.sqT R.sub t, by rw [m.length, hl], env, S, As, xs, R, m, h⟩
  | _ => exact False.elim h
end
end PL
set_option Elab.async false
set_option linter.all false
set_option maxRecDepth 100000
set_option maxHeartbeats 1000000
namespace PL
open PySem PySem.Spec PyProof.Rows L2
/-! ### comprehensions -/
abbrev W0 : WX := fun _ _ _ _ => False
theorem Res.noexc_ok {α : Type} {x : Res α} {r : α} (h : x.noexc = .ok r) : x = .ok r := by
  cases x <;> first | exact h | cases h
section
variable {K : PySem.W.Frag} {mg : Str → Option Value} {H H' S S' H₀ S₀ : Hp} {As As' As₀ : Fp} {σ : SlotV} {env : Env}
/-- a slot forgotten -/
theorem Rel.drop (R : Rel K mg σ env H S As) (i : Nat) : Rel K mg (σ.set i none) (env.set i none) H S (updF As i []) ∧ Stp H S As H S (updF As i []) := by
  refine ⟨⟨R.sub, by simp [R.len], fun j c e => ?_, fun j e => ?_, fun j k a n h1 h2 => ?_, fun a h => ?_, fun a r h => ?_⟩, Same.refl _, fun b o q _ => q, fun b hb => ?_, fun b hb => .inl hb, rfl⟩
  · by_cases hj : j = i
    · subst hj
      by_cases hl : j < env.length
      · rw [get_set_same hl] at e; cases e
      · have := get_lt e
        rw [List.length_set] at this
        exact absurd this hl
    · rw [get_set_ne (Ne.symm hj)] at e
      obtain ⟨w, e1, e2⟩ := R.cell j c e
      exact ⟨w, by rw [List.getElem?_set_ne (Ne.symm hj)]; exact e1, by rw [updF_ne hj]; exact e2⟩
  · by_cases hj : j = i
    · subst hj; exact updF_same
    · rw [get_set_ne (Ne.symm hj)] at e
      rw [updF_ne hj]; exact R.emp j e
  · by_cases hj : j = i
    · subst hj; rw [updF_same] at h1; cases h1
    · rw [updF_ne hj] at h1
      by_cases hk : k = i
      · subst hk; rw [updF_same] at h2; cases h2
      · rw [updF_ne hk] at h2; exact R.disj j k a n h1 h2
  · obtain ⟨j, hj⟩ := h
    by_cases q : j = i
    · subst q; rw [updF_same] at hj; cases hj
    · rw [updF_ne q] at hj; exact R.free a ⟨j, hj⟩
  · by_cases q : 0 = i
    · subst q; rw [updF_same] at h; cases h
    · rw [updF_ne q] at h; exact R.anc a r h
  · obtain ⟨j, hj⟩ := hb
    by_cases q : j = i
    · subst q; rw [updF_same] at hj; cases hj
    · rw [updF_ne q] at hj; exact .inl ⟨j, hj⟩
theorem Rel.wipes : ∀ {is : List Nat} {As : Fp}, Rel K mg σ env H S As → ∃ As', Rel K mg (wipe σ is) (wipeE env is) H S As' ∧ Stp H S As H S As'
  | [], As, R => ⟨As, R, Stp.refl⟩
  | i :: is, As, R => by
    obtain ⟨As1, R1, st1⟩ := Rel.wipes (is := is) R
    obtain ⟨R2, st2⟩ := R1.drop i
    exact ⟨_, R2, st1.trans st2⟩
theorem wipe_at : ∀ {is : List Nat} {σ : SlotV} {j : Nat}, j ∈ is → (wipe σ is)[j]? = some none ∨ (wipe σ is)[j]? = none
  | i :: is, σ, j, h => by
    show ((wipe σ is).set i none)[j]? = some none ∨ ((wipe σ is).set i none)[j]? = none
    by_cases e : i = j
    · subst e
      by_cases hl : i < (wipe σ is).length
      · exact .inl (List.getElem?_set_self hl)
      · exact .inr (List.getElem?_eq_none (by simpa using hl))
    · rw [List.getElem?_set_ne e]
      rcases List.mem_cons.mp h with rfl | h
      · exact absurd rfl e
      · exact wipe_at h
theorem wipe_not : ∀ {is : List Nat} {σ : SlotV} {j : Nat}, j ∉ is → (wipe σ is)[j]? = σ[j]?
  | [], σ, j, h => rfl
  | i :: is, σ, j, h => by
    show ((wipe σ is).set i none)[j]? = _
    rw [List.getElem?_set_ne fun e => h (by simp [e])]
    exact wipe_not fun z => h (List.mem_cons_of_mem _ z)
theorem wipe_kept {is ts : List Nat} {σ σ' : SlotV} (h : Kept (wipe σ is) σ' ts) (hs : ∀ j ∈ ts, j ∈ is) : wipe σ' is = wipe σ is := by
  apply List.ext_getElem?
  intro j
  by_cases hj : j ∈ is
  · have l : (wipe σ' is).length = (wipe σ is).length := by rw [wipe_length, h.1]
    have h1 : (wipe σ' is)[j]? = if j < (wipe σ' is).length then some none else none := by
      rcases wipe_at (σ := σ') hj with e | e
      · have := (List.getElem?_eq_some_iff.mp e).1
        rw [if_pos this, e]
      · have := List.getElem?_eq_none_iff.mp e
        rw [if_neg (by omega), e]
    have h2 : (wipe σ is)[j]? = if j < (wipe σ is).length then some none else none := by
      rcases wipe_at (σ := σ) hj with e | e
      · have := (List.getElem?_eq_some_iff.mp e).1
        rw [if_pos this, e]
      · have := List.getElem?_eq_none_iff.mp e
        rw [if_neg (by omega), e]
    rw [h1, h2, l]
  · rw [wipe_not hj, h.2 j fun z => hj (hs j z), wipe_not hj]
theorem getE_wipe_in : ∀ {is : List Nat} {env : Env} {j : Nat}, j ∈ is → get (wipeE env is) j = none
  | i :: is, env, j, h => by
    show get ((wipeE env is).set i none) j = none
    by_cases e : i = j
    · subst e
      unfold get
      by_cases hl : i < (wipeE env is).length
      · rw [List.getElem?_set_self hl]; rfl
      · rw [List.getElem?_eq_none (by simpa using hl)]; rfl
    · rw [get_set_ne e]
      rcases List.mem_cons.mp h with rfl | h
      · exact absurd rfl e
      · exact getE_wipe_in h
theorem restore_len : ∀ {is : List Nat} {old env : Env}, (restore old env is).length = env.length
  | [], _, _ => rfl
  | i :: is, old, env => by unfold restore; rw [List.length_set, restore_len]
theorem get_restore_in : ∀ {is : List Nat} {old env : Env} {j : Nat}, j ∈ is → old.length = env.length → get (restore old env is) j = get old j
  | i :: is, old, env, j, h, hl => by
    show get ((restore old env is).set i (get old i)) j = _
    by_cases e : i = j
    · subst e
      by_cases hlt : i < env.length
      · rw [get_set_same (by rw [restore_len]; exact hlt)]
      · unfold get
        rw [List.getElem?_eq_none (by rw [List.length_set, restore_len]; omega), List.getElem?_eq_none (by omega)]
    · rw [get_set_ne e]
      rcases List.mem_cons.mp h with rfl | h
      · exact absurd rfl e
      · exact get_restore_in h hl
theorem get_restore_not : ∀ {is : List Nat} {old env : Env} {j : Nat}, j ∉ is → get (restore old env is) j = get env j
  | [], _, _, _, _ => rfl
  | i :: is, old, env, j, h => by
    show get ((restore old env is).set i (get old i)) j = _
    rw [get_set_ne fun e => h (by simp [e])]
    exact get_restore_not fun z => h (List.mem_cons_of_mem _ z)
/-- the block's own slots are the def's again -/
theorem Rel.restored {is : List Nat} {old env : Env} (R0 : Rel K mg σ old H₀ S₀ As₀) (hp : plainAt old is = true) (R : Rel K mg (wipe σ is) env H S As) (e : Same S₀ S) : ∃ As', Rel K mg σ (restore old env is) H S As' ∧ Stp H S As H S As' := by
  have hlen : old.length = env.length := by rw [← R0.len, ← R.len, wipe_length]
  refine ⟨⟨fun j => if j ∈ is then [] else As j, As.root⟩, ⟨R.sub, by rw [restore_len, ← hlen, R0.len], fun j c h => ?_, fun j h => ?_, fun j k a n h1 h2 => ?_, fun a h => ?_, fun a r h => ?_⟩, Same.refl _, fun b o q _ => q, fun b hb => ?_, fun b hb => .inl hb, rfl⟩
  · by_cases hj : j ∈ is
    · rw [get_restore_in hj hlen] at h
      obtain ⟨v, v1, v2⟩ := R0.cell j c h
      have hpl : ∃ p, c = .fz p := by
        unfold plainAt at hp
        have := List.all_eq_true.mp hp j hj
        rw [h] at this
        cases c <;> first | exact ⟨_, rfl⟩ | cases this
      obtain ⟨p, rfl⟩ := hpl
      refine ⟨v, v1, ?_⟩
      show CellOk K mg H S v (.fz p) (if j ∈ is then [] else As j)
      rw [if_pos hj]
      unfold CellOk at v2 ⊢
      exact ⟨Rp.mono e _ _ v2.1, rfl⟩
    · rw [get_restore_not hj] at h
      obtain ⟨v, v1, v2⟩ := R.cell j c h
      rw [wipe_not hj] at v1
      refine ⟨v, v1, ?_⟩
      show CellOk K mg H S v c (if j ∈ is then [] else As j)
      rw [if_neg hj]; exact v2
  · by_cases hj : j ∈ is
    · exact if_pos hj
    · rw [get_restore_not hj] at h
      show (if j ∈ is then [] else As j) = []
      rw [if_neg hj]; exact R.emp j h
  · have h1 : a ∈ (if j ∈ is then [] else As j) := h1
    have h2 : a ∈ (if k ∈ is then [] else As k) := h2
    by_cases hj : j ∈ is
    · rw [if_pos hj] at h1; cases h1
    · rw [if_neg hj] at h1
      by_cases hk : k ∈ is
      · rw [if_pos hk] at h2; cases h2
      · rw [if_neg hk] at h2; exact R.disj j k a n h1 h2
  · obtain ⟨j, hj⟩ := h
    dsimp only at hj
    by_cases q : j ∈ is
    · rw [if_pos q] at hj; cases hj
    · rw [if_neg q] at hj; exact R.free a ⟨j, hj⟩
  · have h : (if 0 ∈ is then [] else As 0) = a :: r := h
    by_cases q : 0 ∈ is
    · rw [if_pos q] at h; cases h
    · rw [if_neg q] at h; exact R.anc a r h
  · obtain ⟨j, hj⟩ := hb
    dsimp only at hj
    by_cases q : j ∈ is
    · rw [if_pos q] at hj; cases hj
    · rw [if_neg q] at hj; exact .inl ⟨j, hj⟩
/-- a list in the making, nobody's -/
structure Mk1 (H S : Hp) (As : Fp) (D : Addr) (vs : List V) : Prop where
  at' : H D = some (.lst vs)
  fz : S D = none
  no : ¬ Own As D
theorem Mk1.stp {D : Addr} {vs : List V} (h : Mk1 H S As D vs) (s : Stp H S As H' S' As') : Mk1 H' S' As' D vs := by
  refine ⟨s.fr D _ h.at' h.no, ?_, fun z => ?_⟩
  · cases e : S' D with
    | none => rfl
    | some o =>
      rcases s.new D (by rw [e]; simp) with z | z | z
      · exact absurd h.fz z
      · exact absurd z h.no
      · rcases z with z | ⟨_, z⟩ <;> (rw [h.at'] at z; cases z)
  · rcases s.own D z with z | z
    · exact h.no z
    · rw [h.at'] at z; cases z
theorem Mk1.push {D : Addr} {vs ws : List V} (h : Mk1 H S As D vs) (R : Rel K mg σ env H S As) (hn : H₀ D = none) (st : Stp H₀ S₀ As₀ H S As) :
    Rel K mg σ env (upd H D (.lst ws)) S As ∧ Stp H₀ S₀ As₀ (upd H D (.lst ws)) S As ∧ Mk1 (upd H D (.lst ws)) S As D ws := by
  refine ⟨R.grow (fun b o e => ?_) (Same.refl _) (fun b hb => upd_ne fun e => h.no (e ▸ hb)) fun b hb => R.free b hb, ⟨st.same, fun b o e n => ?_, st.own, st.new, st.root⟩, upd_same, h.fz, h.no⟩
  · rw [upd_ne fun q => by rw [q, h.fz] at e; cases e]; exact R.sub b o e
  · rw [upd_ne fun q => by rw [q, hn] at e; cases e]; exact st.fr b o e n
end
section
variable {X : Cx} {W : WX} {elt tg iter : Expr} {ifs : List Expr} {scope : Scope} {own : List (Str × Nat)} {is : List Nat} {pos : Pos} {t : Tg}
  {fi : Env → Res ((List PV × RV) × Env)} {ft : PV → Env → Res Env} {fc : Env → Res (Bool × Env)} {fe : Env → Res (RV × Env)}
theorem PostG.ok {K : PySem.W.Frag} {mg : Str → Option Value} {H S : Hp} {As : Fp} {r : Res Env} {e : Env} {k : Env → Prop} (h : r = .ok e) (q : k e) : PostG K mg W H S As r k := by subst h; exact q
theorem Post.ok' {α : Type} {K : PySem.W.Frag} {mg : Str → Option Value} {H S : Hp} {As : Fp} {r : Res (α × Env)} {a : α} {e : Env} {k : α → Env → Prop} (h : r = .ok (a, e)) (q : k a e) : Post K mg W H S As r k := by subst h; exact q
/-- what a turn yields, tracked -/
theorem YOk.lay {K : PySem.W.Frag} {mg : Str → Option Value} {σ : SlotV} {env : Env} {S H H3 : Hp} {As : Fp} {x : V} {p : PV} (R : Rel K mg σ env H S As) (h : YOk K mg S H x H3 p) : ∃ S3, Rel K mg σ env H3 S3 As ∧ Stp H S As H3 S3 As ∧ Rp K mg S3 x p := by
  rcases h with ⟨rfl, h⟩ | ⟨T, vs, ps, rfl, rfl, n, rfl, m⟩
  · exact ⟨S, R, Stp.refl, h⟩
  · obtain ⟨R', st⟩ := R.lay (o := .tup vs) n
    exact ⟨_, R', st, Rp.tup upd_same (Rps.mono st.same _ _ m)⟩
abbrev fLc (fi : Env → Res ((List PV × RV) × Env)) (ft : PV → Env → Res Env) (fc : Env → Res (Bool × Env)) (fe : Env → Res (RV × Env)) (is : List Nat) : Env → Res (RV × Env) := fun env => (fi env).bind fun r => match plainAt r.2 is with
    | false => .stuck
    | true => (lcGo is ft fc (fun e1 => (fe e1).bind fun q => optR (take q.1 q.2)) (fun e1 => wipeE e1 is) r.1.1 [] (wipeE r.2 is)).noexc.bind fun q =>
      .ok (.new (.lst q.1), unb r.1.2 (restore r.2 q.2 is))
/-- what is borrowed while a loop runs -/
theorem keep_pin {K : PySem.W.Frag} {mg : Str → Option Value} {σ : SlotV} {H1 S1 : Hp} {As1 : Fp} {v : V} {r : RV} {B : List Addr} (ok : RvOk K mg σ H1 S1 As1 v r B) {H' S' : Hp} {As' : Fp} (st : Stp H1 S1 As1 H' S' As') : Same (pin H1 B) H' :=
  pin_same (st.keep (fun b hb => ok.thereN b hb) fun b hb => (ok.there b hb).2).1
theorem imp_lc {K : PySem.W.Frag} {mg : Str → Option Value} {σ : SlotV} {H : Hp} {Q : VK} (hsub : ∀ j ∈ tgs t, j ∈ is)
    (h : liftE K mg W (fLc fi ft fc fe is) σ H Q) :
    tLc (liftI K mg W fi) (liftG K mg W0 (tgs t) ft) (liftT K mg W0 fc) (liftE K mg W0 fe) is σ H Q := by
  obtain ⟨env, S, As, R, h⟩ := h
  refine liftI.mono (bindI Stp.refl R h) ?_
  rintro J H1 ⟨items, keep, env1, S1, As1, kv, kB, st1, R1, okk, frk, wk, h1⟩ D hD
  dsimp only at h1
  cases hp : plainAt env1 is with
  | false => rw [hp] at h1; exact False.elim h1
  | true =>
    rw [hp] at h1
    dsimp only at h1
    cases hgo : (lcGo is ft fc (fun e1 => (fe e1).bind fun q => optR (take q.1 q.2)) (fun e1 => wipeE e1 is) items [] (wipeE env1 is)).noexc with
    | exc C fs e => cases hq : lcGo is ft fc (fun e1 => (fe e1).bind fun q => optR (take q.1 q.2)) (fun e1 => wipeE e1 is) items [] (wipeE env1 is) <;> rw [hq] at hgo <;> cases hgo
    | stuck => rw [hgo] at h1; exact False.elim h1
    | ok r =>
      obtain ⟨accF, envF⟩ := r
      rw [hgo] at h1
      have hgo := Res.noexc_ok hgo
      have h1 : KE K mg σ H S As Q (.new (.lst accF)) (unb keep (restore env1 envF is)) := h1
      obtain ⟨As2, R2, st2⟩ := R1.wipes (is := is)
      obtain ⟨R3, st3⟩ := R2.layN (o := .lst []) hD
      have noD : ¬ Own As2 D := fun z => R2.there z hD
      let Iv : Nat → Hp → Prop := fun i Hc => ∃ env' S' As' acc vs, Stp H1 S1 As1 Hc S' As' ∧ Rel K mg (wipe σ is) env' Hc S' As' ∧ Mk1 Hc S' As' D vs ∧ Rps K mg S' vs acc ∧ acc.length ≤ i ∧
        lcGo is ft fc (fun e1 => (fe e1).bind fun q => optR (take q.1 q.2)) (fun e1 => wipeE e1 is) (items.drop i) acc env' = .ok (accF, envF)
      refine ⟨fun i m Hc => m = items.length - i ∧ i ≤ items.length ∧ Iv i Hc, ⟨_, rfl, Nat.zero_le _, wipeE env1 is, S1, As2, [], [], st2.trans st3, R3, ⟨upd_same, R1.sub.free hD, noD⟩, Rps.nil, Nat.le_refl _, hgo⟩, ?_⟩
      rintro i m Hc ⟨rfl, hile, env', S', As', acc, vs, stc, Rc, mk, rs, hacc, hrun⟩
      have sm : Same S1 Hc := stc.same.trans Rc.sub
      by_cases hlt : i < items.length
      · obtain ⟨hgoJ, hy⟩ := wk.item Hc sm (keep_pin okk stc) i items[i] (List.getElem?_eq_getElem hlt)
        refine .inr ⟨hgoJ, Iv (i + 1), fun H' p' => ⟨items.length - (i + 1), by omega, rfl, hlt, p'⟩, fun x H3 y => ?_⟩
        obtain ⟨S3, R4, st4, rx⟩ := ((hy x H3 y).mono stc.same).lay Rc
        rw [List.drop_eq_getElem_cons hlt] at hrun
        unfold lcGo at hrun
        obtain ⟨e1, k1, hrun⟩ := Res.bind_ok hrun
        obtain ⟨⟨b, e2⟩, k2, hrun⟩ := Res.bind_ok hrun
        refine ⟨env', S3, As', items[i], R4, rx, PostG.ok k1 ?_⟩
        intro σ5 H5 S5 As5 kp5 st5 R5
        refine ⟨wipe_kept kp5 hsub, e1, S5, As5, R5, Post.ok' k2 ?_⟩
        intro H6 S6 As6 st6 R6
        have st16 := ((stc.trans st4).trans st5).trans st6
        have mk6 := ((mk.stp st4).stp st5).stp st6
        have rs6 : Rps K mg S6 vs acc := Rps.mono ((st4.same.trans st5.same).trans st6.same) _ _ rs
        cases b with
        | false =>
          obtain ⟨As7, R7, st7⟩ := R6.wipes (is := is)
          rw [wipe_kept kp5 hsub] at R7
          exact iteF ⟨wipeE e2 is, S6, As7, acc, vs, st16.trans st7, R7, mk6.stp st7, rs6, Nat.le_succ_of_le hacc, hrun⟩
        | true =>
          refine iteT ?_
          obtain ⟨⟨q, e4⟩, k3, hrun⟩ := Res.bind_ok hrun
          obtain ⟨⟨rv, e3⟩, k4, k5⟩ := Res.bind_ok k3
          have k5 : take rv e3 = some (q, e4) := by
            dsimp only at k5
            cases z : take rv e3 with
            | none => rw [z] at k5; cases k5
            | some r => rw [z] at k5; cases k5; rfl
          refine ⟨e2, S6, As6, R6, Post.ok' k4 ?_⟩
          intro v H7 S7 As7 B st7 R7 ok7 fr7
          obtain ⟨S8, As8, R8, st8, rp8, sm8, _⟩ := take_ok R7 ok7 st7 fr7 k5
          have mk8 := mk6.stp st8
          have rs8 : Rps K mg S8 (vs ++ [v]) (acc ++ [q]) := (Rps.mono st8.same _ _ rs6).append (Rps.cons rp8 Rps.nil)
          obtain ⟨As9, R9, st9⟩ := R8.wipes (is := is)
          rw [wipe_kept kp5 hsub] at R9
          obtain ⟨R10, st10, mk10⟩ := (mk8.stp st9).push (ws := vs ++ [v]) R9 hD ((st16.trans st8).trans st9)
          refine ⟨vs, mk8.at', ?_, wipeE e4 is, S8, As9, acc ++ [q], vs ++ [v], st10, R10, mk10, rs8, by simp; omega, hrun⟩
          have := wk.len
          rw [rs.length]
          omega
      · have e : i = items.length := by omega
        subst e
        rw [List.drop_length] at hrun
        have hrun : (Res.ok (acc, env') : Res (List PV × Env)) = .ok (accF, envF) := hrun
        cases hrun
        obtain ⟨As9, R9, st9⟩ := Rel.restored R1 hp Rc stc.same
        have mk9 := mk.stp st9
        obtain ⟨As10, R10, st10, o10⟩ := unb_ok R9 (okk.stp (stc.trans st9)) (st1.trans (stc.trans st9)) frk
        refine .inl ⟨wk.stop Hc sm (keep_pin okk stc) _ (Nat.le_refl _), h1 _ _ _ _ [D] st10 R10 ⟨by unfold CellOk; exact ⟨D, vs, rfl, mk9.at', rs, rfl⟩, fun b hb => ?_⟩ fun b hb => ?_⟩
        · obtain rfl : b = D := by simpa using hb
          exact ⟨fun z => (o10 b z).elim mk9.no fun z => (okk.there b z).1 hD, mk9.fz⟩
        · obtain rfl : b = D := by simpa using hb
          exact st1.fresh (.inl hD)
theorem le_lc (hown : own.map (·.2) = is) (hc : X.calm = true) (hN : X.N.Nodup) (hi : LI X W tg iter fi) (ok : BlkOk X.N X.env.scope scope own) (hsub : ∀ j ∈ tgs t, j ∈ is)
    (hg : ∀ (s : Shared) (H : Hp) (C : Addr) (cl : List (Str × Addr)) (fp : List Addr), LG (X.blk s H scope (compEnvC scope cl C X.env) fp) W0 tg t ft)
    (ht : ∀ (s : Shared) (H : Hp) (C : Addr) (cl : List (Str × Addr)) (fp : List Addr), PTs (X.blk s H scope (compEnvC scope cl C X.env) fp) ifs (liftT X.K X.mg W0 fc))
    (he : ∀ (s : Shared) (H : Hp) (C : Addr) (cl : List (Str × Addr)) (fp : List Addr), LE (X.blk s H scope (compEnvC scope cl C X.env) fp) W0 elt fe) (hs : ∀ x, foldedSetIterable iter X.env x = pure x) :
    LE X W (.ListComp elt [⟨tg, iter, ifs, 0⟩] scope pos) (fLc fi ft fc fe is) := by
  refine PE.imp (pe_lc (g := liftG X.K X.mg W0 (tgs t) ft) (tt := liftT X.K X.mg W0 fc) (te := liftE X.K X.mg W0 fe) hc hN hi ok hg ht he hs) fun σ H Q h => ?_
  rw [hown]
  exact imp_lc hsub h
theorem lts_test0 {Y : Cx} : PTs Y [] (liftT Y.K Y.mg W0 (fun env => .ok (true, env))) := by
  refine ⟨fun pins s σ H Q I h => ?_⟩
  obtain ⟨env, S, As, R, h⟩ := h
  exact pts_nil.run pins s σ H Q I (h H S As Stp.refl R)
theorem lcGo_len {is : List Nat} {ft : PV → Env → Res Env} {fc : Env → Res (Bool × Env)} {fe : Env → Res (PV × Env)} {wp : Env → Env} : ∀ {items acc : List PV} {env : Env} {r : List PV × Env}, lcGo is ft fc fe wp items acc env = .ok r → acc.length ≤ r.1.length
  | [], acc, env, r, h => by
    have h : (Res.ok (acc, env) : Res (List PV × Env)) = .ok r := h
    cases h
    exact Nat.le_refl _
  | x :: xs, acc, env, r, h => by
    unfold lcGo at h
    obtain ⟨e1, _, h⟩ := Res.bind_ok h
    obtain ⟨⟨b, e2⟩, _, h⟩ := Res.bind_ok h
    cases b with
    | false => exact lcGo_len (items := xs) h
    | true =>
      obtain ⟨⟨q, e3⟩, _, h⟩ := Res.bind_ok h
      have := lcGo_len (items := xs) h
      rw [List.length_append] at this
      exact Nat.le_trans (Nat.le_add_right _ _) this
theorem lc2Go_len {is : List Nat} {ft : PV → Env → Res Env} {fc : Env → Res (Bool × Env)} {fin : Env → List PV → Res (List PV × Env)} {wp : Env → Env} (hin : ∀ e acc r, fin e acc = .ok r → acc.length ≤ r.1.length) : ∀ {items acc : List PV} {env : Env} {r : List PV × Env}, lc2Go is ft fc fin wp items acc env = .ok r → acc.length ≤ r.1.length
  | [], acc, env, r, h => by
    have h : (Res.ok (acc, env) : Res (List PV × Env)) = .ok r := h
    cases h
    exact Nat.le_refl _
  | x :: xs, acc, env, r, h => by
    unfold lc2Go at h
    obtain ⟨e1, _, h⟩ := Res.bind_ok h
    obtain ⟨⟨b, e2⟩, _, h⟩ := Res.bind_ok h
    cases b with
    | false => exact lc2Go_len hin (items := xs) h
    | true =>
      obtain ⟨⟨q, e3⟩, k, h⟩ := Res.bind_ok h
      exact Nat.le_trans (hin _ _ _ k) (lc2Go_len hin (items := xs) h)
theorem wipe_sub {is js : List Nat} {σ : SlotV} (h : ∀ j ∈ js, j ∈ is) : wipe (wipe σ js) is = wipe σ is := by
  have e : wipe (wipe (wipe σ js) is) is = wipe σ is := wipe_kept (ts := is) (h := ⟨by simp [wipe_length], fun j n => by rw [wipe_not n, wipe_not n, wipe_not fun z => n (h j z)]⟩) fun _ z => z
  have e2 : wipe (wipe (wipe σ js) is) is = wipe (wipe σ js) is := wipe_kept (ts := is) (h := ⟨by simp [wipe_length], fun j n => by rfl⟩) fun _ z => z
  rw [← e2, e]
variable {tg1 iter1 : Expr} {ifs1 : List Expr} {is1 : List Nat} {t1 : Tg} {fi1 : Env → Res ((List PV × RV) × Env)} {ft1 : PV → Env → Res Env} {fc1 : Env → Res (Bool × Env)}
abbrev fIn (fi1 : Env → Res ((List PV × RV) × Env)) (ft1 : PV → Env → Res Env) (fc1 : Env → Res (Bool × Env)) (fe : Env → Res (RV × Env)) (is1 : List Nat) : Env → List PV → Res (List PV × Env) := fun e1 acc => (fi1 e1).bind fun s => match s.1.2 with
    | .val _ => lcGo is1 ft1 fc1 (fun e2 => (fe e2).bind fun q => optR (take q.1 q.2)) (fun e2 => wipeE e2 is1) s.1.1 acc (wipeE s.2 is1)
    | _ => .stuck
abbrev fLc2 (fi : Env → Res ((List PV × RV) × Env)) (ft : PV → Env → Res Env) (fc : Env → Res (Bool × Env)) (fi1 : Env → Res ((List PV × RV) × Env)) (ft1 : PV → Env → Res Env) (fc1 : Env → Res (Bool × Env)) (fe : Env → Res (RV × Env)) (is is1 : List Nat) : Env → Res (RV × Env) := fun env => (fi env).bind fun r => match plainAt r.2 is with
    | false => .stuck
    | true => (lc2Go is ft fc (fIn fi1 ft1 fc1 fe is1) (fun e1 => wipeE e1 is) r.1.1 [] (wipeE r.2 is)).noexc.bind fun q =>
      if q.1.length ≤ sizeLine then .ok (.new (.lst q.1), unb r.1.2 (restore r.2 q.2 is)) else .stuck
theorem imp_lc2 {K : PySem.W.Frag} {mg : Str → Option Value} {σ : SlotV} {H : Hp} {Q : VK} (hv : ∀ j ∈ is1, j ∈ is) (hsub : ∀ j ∈ tgs t, j ∈ is) (hsub1 : ∀ j ∈ tgs t1, j ∈ is1)
    (h : liftE K mg W (fLc2 fi ft fc fi1 ft1 fc1 fe is is1) σ H Q) :
    tLc2 (liftI K mg W fi) (liftG K mg W0 (tgs t) ft) (liftT K mg W0 fc) (liftI K mg W0 fi1) (liftG K mg W0 (tgs t1) ft1) (liftT K mg W0 fc1) (liftE K mg W0 fe) is is1 σ H Q := by
  obtain ⟨env, S, As, R, h⟩ := h
  refine liftI.mono (bindI Stp.refl R h) ?_
  rintro J H1 ⟨items, keep, env1, S1, As1, kv, kB, st1, R1, okk, frk, wk, h1⟩ D hD
  dsimp only at h1
  cases hp : plainAt env1 is with
  | false => rw [hp] at h1; exact False.elim h1
  | true =>
    rw [hp] at h1
    dsimp only at h1
    have hin : ∀ (e1 : Env) (acc : List PV) (r : List PV × Env), fIn fi1 ft1 fc1 fe is1 e1 acc = .ok r → acc.length ≤ r.1.length := fun e1 acc r h => by
      obtain ⟨s, _, h⟩ := Res.bind_ok h
      split at h
      · exact lcGo_len h
      · cases h
    generalize hrun0 : lc2Go is ft fc (fIn fi1 ft1 fc1 fe is1) (fun e1 => wipeE e1 is) items [] (wipeE env1 is) = run at h1
    cases run with
    | exc C fs e => exact False.elim h1
    | stuck => exact False.elim h1
    | ok r =>
      obtain ⟨accF, envF⟩ := r
      have h1 : Post K mg W H S As (if accF.length ≤ sizeLine then .ok (.new (.lst accF), unb keep (restore env1 envF is)) else .stuck) (KE K mg σ H S As Q) := h1
      split at h1
      case isFalse => exact False.elim h1
      rename_i hsz
      have h1 : KE K mg σ H S As Q (.new (.lst accF)) (unb keep (restore env1 envF is)) := h1
      obtain ⟨As2, R2, st2⟩ := R1.wipes (is := is)
      obtain ⟨R3, st3⟩ := R2.layN (o := .lst []) hD
      have noD : ¬ Own As2 D := fun z => R2.there z hD
      let Iv : Nat → Hp → Prop := fun i Hc => ∃ env' S' As' acc vs, Stp H1 S1 As1 Hc S' As' ∧ Rel K mg (wipe σ is) env' Hc S' As' ∧ Mk1 Hc S' As' D vs ∧ Rps K mg S' vs acc ∧
        lc2Go is ft fc (fIn fi1 ft1 fc1 fe is1) (fun e1 => wipeE e1 is) (items.drop i) acc env' = .ok (accF, envF)
      refine ⟨fun i m Hc => m = items.length - i ∧ i ≤ items.length ∧ Iv i Hc, ⟨_, rfl, Nat.zero_le _, wipeE env1 is, S1, As2, [], [], st2.trans st3, R3, ⟨upd_same, R1.sub.free hD, noD⟩, Rps.nil, hrun0⟩, ?_⟩
      rintro i m Hc ⟨rfl, hile, env', S', As', acc, vs, stc, Rc, mk, rs, hrun⟩
      have sm : Same S1 Hc := stc.same.trans Rc.sub
      by_cases hlt : i < items.length
      · obtain ⟨hgoJ, hy⟩ := wk.item Hc sm (keep_pin okk stc) i items[i] (List.getElem?_eq_getElem hlt)
        refine .inr ⟨hgoJ, Iv (i + 1), fun H' p' => ⟨items.length - (i + 1), by omega, rfl, hlt, p'⟩, fun x H3 y => ?_⟩
        obtain ⟨S3, R4, st4, rx⟩ := ((hy x H3 y).mono stc.same).lay Rc
        rw [List.drop_eq_getElem_cons hlt] at hrun
        unfold lc2Go at hrun
        obtain ⟨e1, k1, hrun⟩ := Res.bind_ok hrun
        obtain ⟨⟨b, e2⟩, k2, hrun⟩ := Res.bind_ok hrun
        refine ⟨env', S3, As', items[i], R4, rx, PostG.ok k1 ?_⟩
        intro σ5 H5 S5 As5 kp5 st5 R5
        have hw5 : wipe σ5 is = wipe σ is := wipe_kept kp5 hsub
        refine ⟨hw5, e1, S5, As5, R5, Post.ok' k2 ?_⟩
        intro H6 S6 As6 st6 R6
        have st16 := ((stc.trans st4).trans st5).trans st6
        have mk6 := ((mk.stp st4).stp st5).stp st6
        have rs6 : Rps K mg S6 vs acc := Rps.mono ((st4.same.trans st5.same).trans st6.same) _ _ rs
        cases b with
        | false =>
          obtain ⟨As7, R7, st7⟩ := R6.wipes (is := is)
          rw [hw5] at R7
          exact iteF ⟨wipeE e2 is, S6, As7, acc, vs, st16.trans st7, R7, mk6.stp st7, rs6, hrun⟩
        | true =>
          refine iteT ?_
          obtain ⟨⟨accI, envI⟩, k3, hrun⟩ := Res.bind_ok hrun
          have hlenF : accI.length ≤ sizeLine := Nat.le_trans (lc2Go_len hin hrun) hsz
          dsimp only at k3
          obtain ⟨⟨⟨items1, keep1⟩, e3⟩, k4, k5⟩ := Res.bind_ok k3
          obtain ⟨pk, rfl⟩ : ∃ p, keep1 = .val p := by
            cases keep1 <;> first | exact ⟨_, rfl⟩ | cases k5
          refine ⟨e2, S6, As6, R6, Post.ok' k4 ?_⟩
          intro J1 H7 S7 As7 kv1 kB1 st7 R7 okk1 frk1 wk1
          obtain rfl : kB1 = [] := okk1.2
          have pn1 : ∀ Hd, Same (pin H7 []) Hd := fun Hd => pin_same fun b hb => by cases hb
          obtain ⟨As8, R8, st8⟩ := R7.wipes (is := is1)
          have st18 := (st16.trans st7).trans st8
          have mk8 := (mk6.stp st7).stp st8
          have rs8 : Rps K mg S7 vs acc := Rps.mono st7.same _ _ rs6
          let Iv1 : Nat → Hp → Prop := fun j Hd => ∃ env' S' As' acc vs, Stp H1 S1 As1 Hd S' As' ∧ Same S7 S' ∧ Rel K mg (wipe σ5 is1) env' Hd S' As' ∧ Mk1 Hd S' As' D vs ∧ Rps K mg S' vs acc ∧
            lcGo is1 ft1 fc1 (fun e2 => (fe e2).bind fun q => optR (take q.1 q.2)) (fun e2 => wipeE e2 is1) (items1.drop j) acc env' = .ok (accI, envI)
          refine ⟨fun j m Hd => m = items1.length - j ∧ j ≤ items1.length ∧ Iv1 j Hd, ⟨_, rfl, Nat.zero_le _, wipeE e3 is1, S7, As8, acc, vs, st18, Same.refl _, R8, mk8, rs8, k5⟩, ?_⟩
          rintro j m Hd ⟨rfl, hjle, envd, Sd, Asd, accd, vsd, std, smd, Rd, mkd, rsd, hrund⟩
          have smdd : Same S7 Hd := smd.trans Rd.sub
          by_cases hjlt : j < items1.length
          · obtain ⟨hgoJ1, hy1⟩ := wk1.item Hd smdd (pn1 Hd) j items1[j] (List.getElem?_eq_getElem hjlt)
            refine .inr ⟨hgoJ1, Iv1 (j + 1), fun H' p' => ⟨items1.length - (j + 1), by omega, rfl, hjlt, p'⟩, fun x1 H9 y1 => ?_⟩
            obtain ⟨S9, R9, st9, rx9⟩ := ((hy1 x1 H9 y1).mono smd).lay Rd
            rw [List.drop_eq_getElem_cons hjlt] at hrund
            unfold lcGo at hrund
            obtain ⟨f1, l1, hrund⟩ := Res.bind_ok hrund
            obtain ⟨⟨b1, f2⟩, l2, hrund⟩ := Res.bind_ok hrund
            refine ⟨envd, S9, Asd, items1[j], R9, rx9, PostG.ok l1 ?_⟩
            intro σa Ha Sa Asa kpa sta Ra
            have hwa : wipe σa is1 = wipe σ5 is1 := wipe_kept kpa hsub1
            refine ⟨hwa, f1, Sa, Asa, Ra, Post.ok' l2 ?_⟩
            intro Hb Sb Asb stb Rb
            have st1b := ((std.trans st9).trans sta).trans stb
            have mkb := ((mkd.stp st9).stp sta).stp stb
            have smb := ((smd.trans st9.same).trans sta.same).trans stb.same
            have rsb : Rps K mg Sb vsd accd := Rps.mono ((st9.same.trans sta.same).trans stb.same) _ _ rsd
            cases b1 with
            | false =>
              obtain ⟨Asc, Rc', stc'⟩ := Rb.wipes (is := is1)
              rw [hwa] at Rc'
              exact iteF ⟨wipeE f2 is1, Sb, Asc, accd, vsd, st1b.trans stc', smb, Rc', mkb.stp stc', rsb, hrund⟩
            | true =>
              refine iteT ?_
              obtain ⟨⟨q, f4⟩, l3, hrund⟩ := Res.bind_ok hrund
              obtain ⟨⟨rv, f3⟩, l4, l5⟩ := Res.bind_ok l3
              have l5 : take rv f3 = some (q, f4) := by
                dsimp only at l5
                cases z : take rv f3 with
                | none => rw [z] at l5; cases l5
                | some r => rw [z] at l5; cases l5; rfl
              refine ⟨f2, Sb, Asb, Rb, Post.ok' l4 ?_⟩
              intro v Hc2 Sc Asc B stc2 Rc2 okc frc
              obtain ⟨Sd2, Asd2, Rd2, std2, rpd, smd2, _⟩ := take_ok Rc2 okc stc2 frc l5
              have mkd2 := mkb.stp std2
              have rsd2 : Rps K mg Sd2 (vsd ++ [v]) (accd ++ [q]) := (Rps.mono std2.same _ _ rsb).append (Rps.cons rpd Rps.nil)
              obtain ⟨Ase, Re, ste⟩ := Rd2.wipes (is := is1)
              rw [hwa] at Re
              obtain ⟨Rf, stf, mkf⟩ := (mkd2.stp ste).push (ws := vsd ++ [v]) Re hD ((st1b.trans std2).trans ste)
              refine ⟨vsd, mkd2.at', ?_, wipeE f4 is1, Sd2, Ase, accd ++ [q], vsd ++ [v], stf, smb.trans std2.same, Rf, mkf, rsd2, hrund⟩
              have h9 := lcGo_len hrund
              rw [List.length_append] at h9
              rw [rsb.length]
              exact Nat.lt_of_lt_of_le (Nat.lt_succ_self _) (Nat.le_trans h9 hlenF)
          · have e : j = items1.length := by omega
            subst e
            rw [List.drop_length] at hrund
            have hrund : (Res.ok (accd, envd) : Res (List PV × Env)) = .ok (accI, envI) := hrund
            cases hrund
            obtain ⟨As9, R9, st9⟩ := Rd.wipes (is := is)
            rw [wipe_sub hv, hw5] at R9
            exact .inl ⟨wk1.stop Hd smdd (pn1 Hd) _ (Nat.le_refl _), wipeE envI is, Sd, As9, accI, vsd, std.trans st9, R9, mkd.stp st9, rsd, hrun⟩
      · have e : i = items.length := by omega
        subst e
        rw [List.drop_length] at hrun
        have hrun : (Res.ok (acc, env') : Res (List PV × Env)) = .ok (accF, envF) := hrun
        cases hrun
        obtain ⟨As9, R9, st9⟩ := Rel.restored R1 hp Rc stc.same
        have mk9 := mk.stp st9
        obtain ⟨As10, R10, st10, o10⟩ := unb_ok R9 (okk.stp (stc.trans st9)) (st1.trans (stc.trans st9)) frk
        refine .inl ⟨wk.stop Hc sm (keep_pin okk stc) _ (Nat.le_refl _), h1 _ _ _ _ [D] st10 R10 ⟨by unfold CellOk; exact ⟨D, vs, rfl, mk9.at', rs, rfl⟩, fun b hb => ?_⟩ fun b hb => ?_⟩
        · obtain rfl : b = D := by simpa using hb
          exact ⟨fun z => (o10 b z).elim mk9.no fun z => (okk.there b z).1 hD, mk9.fz⟩
        · obtain rfl : b = D := by simpa using hb
          exact st1.fresh (.inl hD)
theorem le_lc2 (hown : own.map (·.2) = is) (hc : X.calm = true) (hN : X.N.Nodup) (hi : LI X W tg iter fi) (ok : BlkOk X.N X.env.scope scope own) (hv : ∀ j ∈ is1, j ∈ is) (hsub : ∀ j ∈ tgs t, j ∈ is) (hsub1 : ∀ j ∈ tgs t1, j ∈ is1)
    (hg : ∀ (s : Shared) (H : Hp) (C : Addr) (cl : List (Str × Addr)) (fp : List Addr), LG (X.blk s H scope (compEnvC scope cl C X.env) fp) W0 tg t ft)
    (ht : ∀ (s : Shared) (H : Hp) (C : Addr) (cl : List (Str × Addr)) (fp : List Addr), PTs (X.blk s H scope (compEnvC scope cl C X.env) fp) ifs (liftT X.K X.mg W0 fc))
    (hi1 : ∀ (s : Shared) (H : Hp) (C : Addr) (cl : List (Str × Addr)) (fp : List Addr), LI (X.blk s H scope (compEnvC scope cl C X.env) fp) W0 tg1 iter1 fi1)
    (hg1 : ∀ (s : Shared) (H : Hp) (C : Addr) (cl : List (Str × Addr)) (fp : List Addr), LG (X.blk s H scope (compEnvC scope cl C X.env) fp) W0 tg1 t1 ft1)
    (ht1 : ∀ (s : Shared) (H : Hp) (C : Addr) (cl : List (Str × Addr)) (fp : List Addr), PTs (X.blk s H scope (compEnvC scope cl C X.env) fp) ifs1 (liftT X.K X.mg W0 fc1))
    (he : ∀ (s : Shared) (H : Hp) (C : Addr) (cl : List (Str × Addr)) (fp : List Addr), LE (X.blk s H scope (compEnvC scope cl C X.env) fp) W0 elt fe) (hs : ∀ x, foldedSetIterable iter X.env x = pure x) (hs1 : ∀ env x, foldedSetIterable iter1 env x = pure x) :
    LE X W (.ListComp elt [⟨tg, iter, ifs, 0⟩, ⟨tg1, iter1, ifs1, 0⟩] scope pos) (fLc2 fi ft fc fi1 ft1 fc1 fe is is1) := by
  refine PE.imp (pe_lc2 (vs1 := is1) (g := liftG X.K X.mg W0 (tgs t) ft) (tt := liftT X.K X.mg W0 fc) (wi1 := liftI X.K X.mg W0 fi1) (g1 := liftG X.K X.mg W0 (tgs t1) ft1) (tt1 := liftT X.K X.mg W0 fc1) (te := liftE X.K X.mg W0 fe) hc hN hi ok (by rw [hown]; exact hv) hg ht hi1 hg1 ht1 he hs hs1) fun σ H Q h => ?_
  rw [hown]
  exact imp_lc2 hv hsub hsub1 h
end
end PL
set_option Elab.async false
set_option linter.all false
set_option maxRecDepth 100000
set_option maxHeartbeats 1000000
namespace PL
open PySem PySem.Spec PyProof.Rows L2
/-! ### statements -/
def flTo (K : PySem.W.Frag) (mg : Str → Option Value) (D : Ends) (H S : Hp) (As : Fp) (σ' : SlotV) (H' S' : Hp) (As' : Fp) : Fl → Prop
  | .nx => D.nx σ' H'
  | .bk => D.bk σ' H'
  | .ct => D.ct σ' H'
  | .rt r => ∀ v B, RvOk K mg σ' H' S' As' v r B → (∀ b ∈ B, H b = none ∨ Own As b) → D.rt v H'
def KS (K : PySem.W.Frag) (mg : Str → Option Value) (D : Ends) (H S : Hp) (As : Fp) (fl : Fl) (env : Env) : Prop :=
  ∀ σ' H' S' As', Stp H S As H' S' As' → Rel K mg σ' env H' S' As' → flTo K mg D H S As σ' H' S' As' fl
def liftS (K : PySem.W.Frag) (mg : Str → Option Value) (W : WX) (f : Env → Res (Fl × Env)) : TS := fun D σ H => ∃ env S As, Rel K mg σ env H S As ∧ Post K mg W H S As (f env) (KS K mg D H S As)
abbrev LS (X : Cx) (W : WX) (st : Stmt) (f : Env → Res (Fl × Env)) : Prop := PS X st (liftS X.K X.mg W f)
abbrev LSs (X : Cx) (W : WX) (st : List Stmt) (f : Env → Res (Fl × Env)) : Prop := PSs X st (liftS X.K X.mg W f)
section
variable {K : PySem.W.Frag} {mg : Str → Option Value} {H H' S S' H₀ S₀ : Hp} {As As' As₀ : Fp} {σ : SlotV} {env : Env} {W : WX}
theorem KS.trans {D : Ends} {fl : Fl} (st : Stp H₀ S₀ As₀ H S As) (h : KS K mg D H₀ S₀ As₀ fl env) : KS K mg D H S As fl env := by
  intro σ' H' S' As' s R
  have := h σ' H' S' As' (st.trans s) R
  cases fl with
  | rt r => exact fun v B ok fr => this v B ok fun b hb => st.fresh (fr b hb)
  | nx => exact this
  | bk => exact this
  | ct => exact this
theorem settle_ok (R : Rel K mg σ env H S As) {v : V} {rv rv' : RV} {B : List Addr} {env' : Env} (h : RvOk K mg σ H S As v rv B) (st : Stp H₀ S₀ As₀ H S As) (hB : ∀ b ∈ B, H₀ b = none ∨ Own As₀ b) (e : settle rv env = some (rv', env')) :
    ∃ S' As' B', Rel K mg σ env' H S' As' ∧ Stp H₀ S₀ As₀ H S' As' ∧ RvOk K mg σ H S' As' v rv' B' ∧ (∀ b ∈ B', b ∈ B) ∧ Same S S' ∧ (∀ b, Own As' b → Own As b ∨ b ∈ B) ∧ (∀ b, S' b ≠ none → S b ≠ none ∨ Own As b ∨ b ∈ B) ∧ ∀ b ∈ B', ¬ Own As' b ∧ b ∈ B := by
  have tk : ∀ {z : PV × Env}, take rv env = some z → rv' = .val z.1 → env' = z.2 → ∃ S' As' B', Rel K mg σ env' H S' As' ∧ Stp H₀ S₀ As₀ H S' As' ∧ RvOk K mg σ H S' As' v rv' B' ∧ (∀ b ∈ B', b ∈ B) ∧ Same S S' ∧ (∀ b, Own As' b → Own As b ∨ b ∈ B) ∧ (∀ b, S' b ≠ none → S b ≠ none ∨ Own As b ∨ b ∈ B) ∧ ∀ b ∈ B', ¬ Own As' b ∧ b ∈ B := by
    rintro ⟨p, e2⟩ ez rfl rfl
    obtain ⟨S', As', R', st', rp, sm, o, n⟩ := take_ok R h st hB ez
    exact ⟨S', As', [], R', st', ⟨rp, rfl⟩, (fun b hb => by cases hb), sm, o, n, fun b hb => by cases hb⟩
  cases rv with
  | val p =>
    cases e
    exact ⟨S, As, B, R, st, h, fun _ z => z, Same.refl _, fun b => .inl, fun b => .inl, fun b hb => ⟨(h.there b hb).2.1, hb⟩⟩
  | new c =>
    cases e
    exact ⟨S, As, B, R, st, h, fun _ z => z, Same.refl _, fun b => .inl, fun b => .inl, fun b hb => ⟨(h.there b hb).2.1, hb⟩⟩
  | loc j =>
    simp only [settle, Option.map_eq_some_iff, Prod.mk.injEq] at e
    obtain ⟨z, e1, e2, e3⟩ := e
    exact tk e1 e2.symm e3.symm
  | brw j p c =>
    simp only [settle, Option.map_eq_some_iff, Prod.mk.injEq] at e
    obtain ⟨z, e1, e2, e3⟩ := e
    exact tk e1 e2.symm e3.symm
theorem put_ok (R : Rel K mg σ env H S As) {v : V} {rv : RV} {B : List Addr} {i : Nat} {env' : Env} (h : RvOk K mg σ H S As v rv B) (st : Stp H₀ S₀ As₀ H S As) (hB : ∀ b ∈ B, H₀ b = none ∨ Own As₀ b) (e : put i rv env = some env') :
    ∃ As', Rel K mg (σ.set i (some v)) env' H S As' ∧ Stp H₀ S₀ As₀ H S As' ∧ ∀ b, Own As' b → Own As b ∨ b ∈ B := by
  unfold put at e
  split at e
  case isFalse => cases e
  rename_i hi
  have key : ∀ {c : Cell}, (i = 0 → B = []) → CellOk K mg H S v c B → (∀ b ∈ B, ¬ Own As b ∧ S b = none) → Rel K mg (σ.set i (some v)) (env.set i (some c)) H S (updF As i B) ∧ Stp H₀ S₀ As₀ H S (updF As i B) ∧ ∀ b, Own (updF As i B) b → Own As b ∨ b ∈ B := fun {c} hz hc hb => by
    have own : ∀ b, Own (updF As i B) b → Own As b ∨ b ∈ B := fun b ⟨j, hj⟩ => by
      by_cases q : j = i
      · subst q; rw [updF_same] at hj; exact .inr hj
      · rw [updF_ne q] at hj; exact .inl ⟨j, hj⟩
    refine ⟨R.chg hi R.sub (Same.refl _) (fun _ _ _ _ => rfl) (fun j b _ z => R.free b ⟨j, z⟩) hc (fun b z => ⟨fun j _ q => (hb b z).1 ⟨j, q⟩, (hb b z).2⟩) (fun z a r e => by rw [hz z] at e; cases e), ⟨st.same, st.fr, fun b z => ?_, st.new, st.root⟩, own⟩
    rcases own b z with z | z
    · exact st.own b z
    · exact (hB b z).symm
  cases rv with
  | val p =>
    cases e
    obtain ⟨h1, rfl⟩ := h
    exact ⟨_, key (c := .fz p) (fun _ => rfl) (by unfold CellOk; exact ⟨h1, rfl⟩) fun b hb => by cases hb⟩
  | new c =>
    dsimp only at e
    split at e
    · cases e
    · rename_i hz
      cases e
      exact ⟨_, key (fun z => absurd z hz) h.1 h.2⟩
  | loc j => cases e
  | brw j p c => cases e
theorem RvsOk.stp' (s : Stp H S As H' S' As') {rs : List RV} {vs : List V} {B : List Addr} (h : RvsOk K mg σ H S As vs rs B) : RvsOk K mg σ H' S' As' vs rs B := RvsOk.stp s h
end
section
variable {X : Cx} {W : WX} {e c : Expr} {st : Stmt} {a b rest : List Stmt} {pos : Pos} {fe : Env → Res (RV × Env)} {ft : Env → Res (Bool × Env)} {fa fb : Env → Res (Fl × Env)}
theorem ls_bad {f : Env → Res (Fl × Env)} (h : ∀ env, f env = .stuck) : LS X W st f := ⟨fun pins s σ H D I ⟨env, _, _, _, p⟩ => by rw [h env] at p; exact False.elim p⟩
theorem lss_nil : LSs X W [] (fun env => .ok (.nx, env)) := by
  refine PSs.imp pss_nil ?_
  rintro D σ H ⟨env, S, As, R, h⟩
  exact h σ H S As Stp.refl R
theorem seq_imp {D : Ends} {σ : SlotV} {H : Hp} {K : PySem.W.Frag} {mg : Str → Option Value} (h : liftS K mg W (fun env => (fa env).bind fun r => match r.1 with
    | .nx => fb r.2
    | f => .ok (f, r.2)) D σ H) : tSeq (liftS K mg W fa) (liftS K mg W fb) D σ H := by
  obtain ⟨env, S, As, R, h⟩ := h
  refine ⟨env, S, As, R, (Post.part Stp.refl h).mono ?_⟩
  intro fl env1 h1 σ1 H1 S1 As1 st1 R1
  cases fl with
  | nx =>
    refine ⟨env1, S1, As1, R1, ?_⟩
    have h1 : Post K mg W H S As (fb env1) (KS K mg D H S As) := h1
    have := Post.part st1 (Post.pass h1)
    exact this.mono fun fl env2 h2 => KS.trans st1 h2
  | bk => exact h1 σ1 H1 S1 As1 st1 R1
  | ct => exact h1 σ1 H1 S1 As1 st1 R1
  | rt r => exact h1 σ1 H1 S1 As1 st1 R1
theorem lss_cons (h1 : LS X W st fa) (h2 : LSs X W rest fb) : LSs X W (st :: rest) (fun env => (fa env).bind fun r => match r.1 with
    | .nx => fb r.2
    | f => .ok (f, r.2)) := PSs.imp (pss_cons h1 h2) fun _ _ _ h => seq_imp h
theorem ls_expr (he : LE X W e fe) (hs : swapsWith e none pos.line X.env = pure false) : LS X W (.Expr e pos) (fun env => (fe env).bind fun r => .ok (.nx, unb r.1 r.2)) := by
  refine PS.imp (ps_expr he hs) ?_
  rintro D σ H ⟨env, S, As, R, h⟩
  refine liftE.mono (bindE Stp.refl R h) ?_
  rintro v H1 ⟨rv, env1, S1, As1, B1, st1, R1, ok1, fr1, h1⟩
  obtain ⟨As2, R2, st2, _⟩ := unb_ok R1 ok1 st1 fr1
  exact h1 σ H1 S1 As2 st2 R2
theorem ls_doc {x : Str} {j : Nat} {p1 : Pos} : LS X W (.Expr (.Constant (.str x) j p1) pos) (fun env => .ok (.nx, env)) := by
  refine PS.imp ps_doc ?_
  rintro D σ H ⟨env, S, As, R, h⟩
  exact h σ H S As Stp.refl R
theorem ls_pass : LS X W (.Pass pos) (fun env => .ok (.nx, env)) := by
  refine PS.imp ps_pass ?_
  rintro D σ H ⟨env, S, As, R, h⟩
  exact h σ H S As Stp.refl R
theorem ls_brk : LS X W (.Break pos) (fun env => .ok (.bk, env)) := by
  refine PS.imp ps_break ?_
  rintro D σ H ⟨env, S, As, R, h⟩
  exact h σ H S As Stp.refl R
theorem ls_cnt : LS X W (.Continue pos) (fun env => .ok (.ct, env)) := by
  refine PS.imp ps_continue ?_
  rintro D σ H ⟨env, S, As, R, h⟩
  exact h σ H S As Stp.refl R
theorem asg_imp {i : Nat} {D : Ends} {σ : SlotV} {H : Hp} {K : PySem.W.Frag} {mg : Str → Option Value}
    (h : liftS K mg W (fun env => (fe env).bind fun r => (optR (settle r.1 r.2)).bind fun r => (optR (put i r.1 r.2)).bind fun e1 => .ok (.nx, e1)) D σ H) : tAsg (liftE K mg W fe) (gName i) D σ H := by
  obtain ⟨env, S, As, R, h⟩ := h
  refine liftE.mono (bindE Stp.refl R h) ?_
  rintro v H1 ⟨rv, env1, S1, As1, B1, st1, R1, ok1, fr1, h1⟩
  obtain ⟨⟨rv', env2⟩, e1, h1⟩ := h1.opt
  obtain ⟨env3, e2, h1⟩ := h1.opt
  obtain ⟨S2, As2, B2, R2, st2, ok2, sb, _⟩ := settle_ok R1 ok1 st1 fr1 e1
  obtain ⟨As3, R3, st3, _⟩ := put_ok R2 ok2 st2 (fun b hb => fr1 b (sb b hb)) e2
  exact h1 _ H1 S2 As3 st3 R3
theorem ls_set {i : Nat} {x : Str} {pos' : Pos} (hN : X.N.Nodup) (hi : X.N[i]? = some x) (hx : Loc X.env.scope x) (he : LE X W e fe) (hs : swapsWith e (some (.Name x pos')) pos.line X.env = pure false) (hf : X.fn x = true ∨ X.env.scope.names.lookup x = some .local) :
    LS X W (.Assign [.Name x pos'] e pos) (fun env => (fe env).bind fun r => (optR (settle r.1 r.2)).bind fun r => (optR (put i r.1 r.2)).bind fun e1 => .ok (.nx, e1)) :=
  PS.imp (ps_set hN hi hx he hs hf) fun _ _ _ h => asg_imp h
theorem ls_setLc {elt tg iter : Expr} {ifs : List Expr} {scope : Scope} {own : List (Str × Nat)} {is : List Nat} {p1 pos' : Pos} {t : Tg} {fi : Env → Res ((List PV × RV) × Env)} {ftg : PV → Env → Res Env} {fc : Env → Res (Bool × Env)} {i : Nat} {y : Str}
    (hown : own.map (·.2) = is) (hc : X.calm = true) (hN : X.N.Nodup) (hy : X.N[i]? = some y) (hyl : X.env.scope.names.lookup y = some .local) (hsw : swapsWith (.ListComp elt [⟨tg, iter, ifs, 0⟩] scope p1) (some (.Name y pos')) pos.line X.env = pure true)
    (hi : LI X W tg iter fi) (ok : BlkOk X.N X.env.scope scope own) (hsub : ∀ j ∈ tgs t, j ∈ is)
    (hg : ∀ (s : Shared) (H : Hp) (C : Addr) (cl : List (Str × Addr)) (fp : List Addr), LG (X.blk s H scope (compEnvC scope cl C X.env) fp) W0 tg t ftg)
    (ht : ∀ (s : Shared) (H : Hp) (C : Addr) (cl : List (Str × Addr)) (fp : List Addr), PTs (X.blk s H scope (compEnvC scope cl C X.env) fp) ifs (liftT X.K X.mg W0 fc))
    (he : ∀ (s : Shared) (H : Hp) (C : Addr) (cl : List (Str × Addr)) (fp : List Addr), LE (X.blk s H scope (compEnvC scope cl C X.env) fp) W0 elt fe) (hs : ∀ x, foldedSetIterable iter X.env x = pure x) :
    LS X W (.Assign [.Name y pos'] (.ListComp elt [⟨tg, iter, ifs, 0⟩] scope p1) pos) (fun env => (fLc fi ftg fc fe is env).bind fun r => (optR (settle r.1 r.2)).bind fun r => (optR (put i r.1 r.2)).bind fun e1 => .ok (.nx, e1)) := by
  refine PS.imp (ps_setLc (g := liftG X.K X.mg W0 (tgs t) ftg) (tt := liftT X.K X.mg W0 fc) (te := liftE X.K X.mg W0 fe) hc hN hy hyl hsw hi ok hg ht he hs) fun D σ H h => ?_
  rw [hown]
  exact imp_lc hsub (asg_imp h)
theorem ls_setLc2 {elt tg iter tg1 iter1 : Expr} {ifs ifs1 : List Expr} {scope : Scope} {own : List (Str × Nat)} {is is1 : List Nat} {p1 pos' : Pos} {t t1 : Tg} {fi fi1 : Env → Res ((List PV × RV) × Env)} {ftg ftg1 : PV → Env → Res Env} {fc fc1 : Env → Res (Bool × Env)} {i : Nat} {y : Str}
    (hown : own.map (·.2) = is) (hc : X.calm = true) (hN : X.N.Nodup) (hy : X.N[i]? = some y) (hyl : X.env.scope.names.lookup y = some .local) (hsw : swapsWith (.ListComp elt [⟨tg, iter, ifs, 0⟩, ⟨tg1, iter1, ifs1, 0⟩] scope p1) (some (.Name y pos')) pos.line X.env = pure true)
    (hi : LI X W tg iter fi) (ok : BlkOk X.N X.env.scope scope own) (hv : ∀ j ∈ is1, j ∈ is) (hsub : ∀ j ∈ tgs t, j ∈ is) (hsub1 : ∀ j ∈ tgs t1, j ∈ is1)
    (hg : ∀ (s : Shared) (H : Hp) (C : Addr) (cl : List (Str × Addr)) (fp : List Addr), LG (X.blk s H scope (compEnvC scope cl C X.env) fp) W0 tg t ftg)
    (ht : ∀ (s : Shared) (H : Hp) (C : Addr) (cl : List (Str × Addr)) (fp : List Addr), PTs (X.blk s H scope (compEnvC scope cl C X.env) fp) ifs (liftT X.K X.mg W0 fc))
    (hi1 : ∀ (s : Shared) (H : Hp) (C : Addr) (cl : List (Str × Addr)) (fp : List Addr), LI (X.blk s H scope (compEnvC scope cl C X.env) fp) W0 tg1 iter1 fi1)
    (hg1 : ∀ (s : Shared) (H : Hp) (C : Addr) (cl : List (Str × Addr)) (fp : List Addr), LG (X.blk s H scope (compEnvC scope cl C X.env) fp) W0 tg1 t1 ftg1)
    (ht1 : ∀ (s : Shared) (H : Hp) (C : Addr) (cl : List (Str × Addr)) (fp : List Addr), PTs (X.blk s H scope (compEnvC scope cl C X.env) fp) ifs1 (liftT X.K X.mg W0 fc1))
    (he : ∀ (s : Shared) (H : Hp) (C : Addr) (cl : List (Str × Addr)) (fp : List Addr), LE (X.blk s H scope (compEnvC scope cl C X.env) fp) W0 elt fe) (hs : ∀ x, foldedSetIterable iter X.env x = pure x) (hs1 : ∀ env x, foldedSetIterable iter1 env x = pure x) :
    LS X W (.Assign [.Name y pos'] (.ListComp elt [⟨tg, iter, ifs, 0⟩, ⟨tg1, iter1, ifs1, 0⟩] scope p1) pos) (fun env => (fLc2 fi ftg fc fi1 ftg1 fc1 fe is is1 env).bind fun r => (optR (settle r.1 r.2)).bind fun r => (optR (put i r.1 r.2)).bind fun e1 => .ok (.nx, e1)) := by
  refine PS.imp (ps_setLc2 (vs1 := is1) (g := liftG X.K X.mg W0 (tgs t) ftg) (tt := liftT X.K X.mg W0 fc) (wi1 := liftI X.K X.mg W0 fi1) (g1 := liftG X.K X.mg W0 (tgs t1) ftg1) (tt1 := liftT X.K X.mg W0 fc1) (te := liftE X.K X.mg W0 fe) hc hN hy hyl hsw hi ok (by rw [hown]; exact hv) hg ht hi1 hg1 ht1 he hs hs1) fun D σ H h => ?_
  rw [hown]
  exact imp_lc2 hv hsub hsub1 (asg_imp h)
theorem ls_asg {tg : Expr} {t : Tg} {fg : PV → Env → Res Env} (he : LE X W e fe) (hg : LG X W tg t fg) (hs : swapsWithSole [tg] e pos.line X.env = pure false) (hw : swappedStores [tg] e X.env = pure none) (h1 : (assignEach [tg] X.env).map (·.2) = [assign tg X.env]) :
    LS X W (.Assign [tg] e pos) (fun env => (fe env).bind fun r => (optR (take r.1 r.2)).bind fun r => (fg r.1 r.2).bind fun e1 => .ok (.nx, e1)) := by
  refine PS.imp (ps_asg he hg hs hw h1) ?_
  rintro D σ H ⟨env, S, As, R, h⟩
  refine liftE.mono (bindE Stp.refl R h) ?_
  rintro v H1 ⟨rv, env1, S1, As1, B1, st1, R1, ok1, fr1, h1⟩
  obtain ⟨⟨p, env2⟩, e1, h1⟩ := h1.opt
  obtain ⟨S2, As2, R2, st2, rp, sm, _⟩ := take_ok R1 ok1 st1 fr1 e1
  refine ⟨env2, S2, As2, p, R2, rp, ?_⟩
  have h1 : Post X.K X.mg W H S As ((fg p env2).bind fun e1 => .ok (.nx, e1)) (KS X.K X.mg D H S As) := h1
  cases hq : fg p env2 with
  | ok e1 =>
    rw [hq] at h1
    exact fun σ' H' S' As' kp s R' => h1 σ' H' S' As' (st2.trans s) R'
  | exc C gs e1 =>
    rw [hq] at h1
    exact fun σ' H' S' As' cls d s => h1 σ' H' S' As' cls d (st2.trans s)
  | stuck => rw [hq] at h1; exact False.elim h1
theorem RvOk.thru {K : PySem.W.Frag} {mg : Str → Option Value} {σ σ' : SlotV} {H S : Hp} {As As' : Fp} {v : V} {rv : RV} {B : List Addr} (h : RvOk K mg σ H S As v rv B) (n : (∃ p, rv = .val p) ∨ ∃ c, rv = .new c) (hB : ∀ b ∈ B, ¬ Own As' b) : RvOk K mg σ' H S As' v rv B := by
  rcases n with ⟨p, rfl⟩ | ⟨c, rfl⟩
  · exact h
  · exact ⟨h.1, fun b hb => ⟨hB b hb, (h.2 b hb).2⟩⟩
theorem settle_no {rv rv' : RV} {env env' : Env} (e : settle rv env = some (rv', env')) : (∃ p, rv' = .val p) ∨ ∃ c, rv' = .new c := by
  cases rv with
  | val p => cases e; exact .inl ⟨_, rfl⟩
  | new c => cases e; exact .inr ⟨_, rfl⟩
  | loc k =>
    simp only [settle, Option.map_eq_some_iff, Prod.mk.injEq] at e
    obtain ⟨z, e1, e2, e3⟩ := e
    exact .inl ⟨_, e2.symm⟩
  | brw j p c =>
    simp only [settle, Option.map_eq_some_iff, Prod.mk.injEq] at e
    obtain ⟨z, e1, e2, e3⟩ := e
    exact .inl ⟨_, e2.symm⟩
/-- another pending value, when one is settled -/
theorem RvOk.aside {K : PySem.W.Frag} {mg : Str → Option Value} {σ : SlotV} {H S S' H₀ S₀ : Hp} {As As' As₀ : Fp} {v : V} {rv : RV} {B C : List Addr} (h : RvOk K mg σ H S As v rv B) (d : ∀ b ∈ B, b ∉ C) (st : Stp H₀ S₀ As₀ H S As) (st' : Stp H₀ S₀ As₀ H S' As') (sm : Same S S') (o : ∀ b, Own As' b → Own As b ∨ b ∈ C) (n : ∀ b, S' b ≠ none → S b ≠ none ∨ Own As b ∨ b ∈ C) : RvOk K mg σ H S' As' v rv B := by
  have hB : ∀ b ∈ B, ¬ Own As' b ∧ S' b = none := fun b hb => ⟨fun z => (o b z).elim (h.there b hb).2.1 (d b hb), by
    cases e : S' b with
    | none => rfl
    | some u =>
      rcases n b (by rw [e]; simp) with z | z | z
      · exact absurd (h.there b hb).2.2 z
      · exact absurd z (h.there b hb).2.1
      · exact absurd z (d b hb)⟩
  have hr : As'.root = As.root := st'.root.trans st.root.symm
  cases rv with
  | val p => exact ⟨Rp.mono sm _ _ h.1, h.2⟩
  | loc j => exact h
  | new c => exact ⟨CellOk.fr sm _ _ _ h.1 fun _ _ => rfl, hB⟩
  | brw j p c =>
    obtain ⟨v0, d, h0, h1, hg, h2, h3, h4⟩ := h
    exact ⟨v0, d, h0, CellOk.fr sm _ _ _ h1 fun _ _ => rfl, hg, h2, hB, fun z a r e => by rw [hr]; exact h4 z a r e⟩
theorem ls_par2 {a b : Expr} {fa fb : Env → Res (RV × Env)} {i j : Nat} {x y : Str} {px py pt pt2 : Pos} {kt k2 : Nat} (hc : X.calm = true) (hN : X.N.Nodup) (hi : X.N[i]? = some x) (hj : X.N[j]? = some y) (hij : i ≠ j)
    (hx : X.env.scope.names.lookup x = some .local) (hy : X.env.scope.names.lookup y = some .local) (ha : LE X W a fa) (hb : LE X W b fb) (h1 : starEach [a, b] X.env = (false, eval a X.env) :: starEach [b] X.env) (h2 : starEach [b] X.env = (false, eval b X.env) :: starEach [] X.env)
    (hw : swappedStores [.Tuple [.Name x px, .Name y py] kt pt] (.Tuple [a, b] k2 pt2) X.env = pure (some [x, y])) (hs : swapsWithSole [.Tuple [.Name x px, .Name y py] kt pt] (.Tuple [a, b] k2 pt2) pos.line X.env = pure false) :
    LS X W (.Assign [.Tuple [.Name x px, .Name y py] kt pt] (.Tuple [a, b] k2 pt2) pos) (fun env => (fa env).bind fun r => (fb r.2).bind fun q => (optR (settle r.1 q.2)).bind fun r => (optR (settle q.1 r.2)).bind fun q =>
    (optR (put i r.1 q.2)).bind fun e1 => (optR (put j q.1 e1)).bind fun e2 => .ok (.nx, e2)) := by
  refine PS.imp (ps_par hc hN hi hj hij hx hy (pa_cons ha (pa_cons hb pa_nil h2) h1) hw hs) ?_
  rintro D σ H ⟨env, S, As, R, h⟩
  refine liftE.mono (bindE Stp.refl R h) ?_
  rintro v H1 ⟨rv, env1, S1, As1, B1, st1, R1, ok1, fr1, h1⟩
  refine liftE.mono (bindE st1 R1 h1) ?_
  rintro w H2 ⟨rw, env2, S2, As2, B2, st2, R2, ok2, fr2, h2⟩
  obtain ⟨⟨rv', env3⟩, e1, h2⟩ := h2.opt
  obtain ⟨⟨rw', env4⟩, e2, h2⟩ := h2.opt
  obtain ⟨env5, e3, h2⟩ := h2.opt
  obtain ⟨env6, e4, h2⟩ := h2.opt
  have ok1' := ok1.stp st2
  have d12 : ∀ b ∈ B1, b ∉ B2 := fun b hb hb2 => by
    obtain ⟨n1, n2, _⟩ := ok1.there b hb
    exact (fr2 b hb2).elim n1 n2
  have fr2' : ∀ b ∈ B2, H b = none ∨ Own As b := fun b hb => st1.fresh (fr2 b hb)
  obtain ⟨S3, As3, B1', R3, st3, ok3, sb3, sm3, o3, n3, f3⟩ := settle_ok R2 ok1' (st1.trans st2) fr1 e1
  have ok2' := ok2.aside (C := B1) (fun b hb z => d12 b z hb) (st1.trans st2) st3 sm3 o3 n3
  obtain ⟨S4, As4, B2', R4, st4, ok4, sb4, sm4, o4, n4, f4⟩ := settle_ok R3 ok2' st3 fr2' e2
  have ok3' := ok3.aside (C := B2) (fun b hb z => d12 b (sb3 b hb) z) st3 st4 sm4 o4 n4
  obtain ⟨As5, R5, st5, ow5⟩ := put_ok R4 ok3' st4 (fun b hb => fr1 b (sb3 b hb)) e3
  have ok5 : RvOk X.K X.mg (σ.set i (some v)) H2 S4 As5 w rw' B2' := ok4.thru (settle_no e2) fun b hb z => by
    rcases ow5 b z with z | z
    · exact (ok4.there b hb).2.1 z
    · exact d12 b (sb3 b z) (sb4 b hb)
  obtain ⟨As6, R6, st6, ow6⟩ := put_ok R5 ok5 st5 (fun b hb => fr2' b (sb4 b hb)) e4
  exact ⟨v, w, rfl, h2 _ H2 S4 As6 st6 R6⟩
theorem ls_par3 {a b c : Expr} {fa fb fc : Env → Res (RV × Env)} {i j l : Nat} {x y z : Str} {px py pz pt pt2 : Pos} {kt k2 : Nat} (hc : X.calm = true) (hN : X.N.Nodup) (hi : X.N[i]? = some x) (hj : X.N[j]? = some y) (hl : X.N[l]? = some z) (hij : i ≠ j) (hil : i ≠ l) (hjl : j ≠ l)
    (hx : X.env.scope.names.lookup x = some .local) (hy : X.env.scope.names.lookup y = some .local) (hz : X.env.scope.names.lookup z = some .local) (ha : LE X W a fa) (hb : LE X W b fb) (hc' : LE X W c fc)
    (h1 : starEach [a, b, c] X.env = (false, eval a X.env) :: starEach [b, c] X.env) (h2 : starEach [b, c] X.env = (false, eval b X.env) :: starEach [c] X.env) (h3 : starEach [c] X.env = (false, eval c X.env) :: starEach [] X.env)
    (hw : swappedStores [.Tuple [.Name x px, .Name y py, .Name z pz] kt pt] (.Tuple [a, b, c] k2 pt2) X.env = pure (some [x, y, z])) (hs : swapsWithSole [.Tuple [.Name x px, .Name y py, .Name z pz] kt pt] (.Tuple [a, b, c] k2 pt2) pos.line X.env = pure false) :
    LS X W (.Assign [.Tuple [.Name x px, .Name y py, .Name z pz] kt pt] (.Tuple [a, b, c] k2 pt2) pos) (fun env => (fa env).bind fun r => (fb r.2).bind fun q => (fc q.2).bind fun w => (optR (settle r.1 w.2)).bind fun r => (optR (settle q.1 r.2)).bind fun q => (optR (settle w.1 q.2)).bind fun w =>
    (optR (put i r.1 w.2)).bind fun e1 => (optR (put j q.1 e1)).bind fun e2 => (optR (put l w.1 e2)).bind fun e3 => .ok (.nx, e3)) := by
  refine PS.imp (ps_par3 hc hN hi hj hl hij hil hjl hx hy hz (pa_cons ha (pa_cons hb (pa_cons hc' pa_nil h3) h2) h1) hw hs) ?_
  rintro D σ H ⟨env, S, As, R, h⟩
  refine liftE.mono (bindE Stp.refl R h) ?_
  rintro v H1 ⟨rv, env1, S1, As1, B1, st1, R1, ok1, fr1, h1⟩
  refine liftE.mono (bindE st1 R1 h1) ?_
  rintro w H2 ⟨rw, env2, S2, As2, B2, st2, R2, ok2, fr2, h2⟩
  refine liftE.mono (bindE (st1.trans st2) R2 h2) ?_
  rintro u H3 ⟨ru, env3, S3, As3, B3, st3, R3, ok3, fr3, h3⟩
  obtain ⟨⟨rv', env4⟩, e1, h3⟩ := h3.opt
  obtain ⟨⟨rw', env5⟩, e2, h3⟩ := h3.opt
  obtain ⟨⟨ru', env6⟩, e3, h3⟩ := h3.opt
  obtain ⟨env7, e4, h3⟩ := h3.opt
  obtain ⟨env8, e5, h3⟩ := h3.opt
  obtain ⟨env9, e6, h3⟩ := h3.opt
  have ok1' := ok1.stp (st2.trans st3)
  have ok2' := ok2.stp st3
  have d12 : ∀ b ∈ B1, b ∉ B2 := fun b hb hb2 => by
    obtain ⟨n1, n2, _⟩ := ok1.there b hb
    exact (fr2 b hb2).elim n1 n2
  have d13 : ∀ b ∈ B1, b ∉ B3 := fun b hb hb2 => by
    obtain ⟨n1, n2, _⟩ := (ok1.stp st2).there b hb
    exact (fr3 b hb2).elim n1 n2
  have d23 : ∀ b ∈ B2, b ∉ B3 := fun b hb hb2 => by
    obtain ⟨n1, n2, _⟩ := ok2.there b hb
    exact (fr3 b hb2).elim n1 n2
  have fr2' : ∀ b ∈ B2, H b = none ∨ Own As b := fun b hb => st1.fresh (fr2 b hb)
  have fr3' : ∀ b ∈ B3, H b = none ∨ Own As b := fun b hb => (st1.trans st2).fresh (fr3 b hb)
  have st0 := (st1.trans st2).trans st3
  obtain ⟨S4, As4, B1', R4, st4, ok4, sb4, sm4, o4, n4, _⟩ := settle_ok R3 ok1' st0 fr1 e1
  have ok2a := ok2'.aside (C := B1) (fun b hb z => d12 b z hb) st0 st4 sm4 o4 n4
  have ok3a := ok3.aside (C := B1) (fun b hb z => d13 b z hb) st0 st4 sm4 o4 n4
  obtain ⟨S5, As5, B2', R5, st5, ok5, sb5, sm5, o5, n5, _⟩ := settle_ok R4 ok2a st4 fr2' e2
  have ok4a := ok4.aside (C := B2) (fun b hb z => d12 b (sb4 b hb) z) st4 st5 sm5 o5 n5
  have ok3b := ok3a.aside (C := B2) (fun b hb z => d23 b z hb) st4 st5 sm5 o5 n5
  obtain ⟨S6, As6, B3', R6, st6, ok6, sb6, sm6, o6, n6, _⟩ := settle_ok R5 ok3b st5 fr3' e3
  have ok4b := ok4a.aside (C := B3) (fun b hb z => d13 b (sb4 b hb) z) st5 st6 sm6 o6 n6
  have ok5b := ok5.aside (C := B3) (fun b hb z => d23 b (sb5 b hb) z) st5 st6 sm6 o6 n6
  obtain ⟨As7, R7, st7, ow7⟩ := put_ok R6 ok4b st6 (fun b hb => fr1 b (sb4 b hb)) e4
  have ok7 : RvOk X.K X.mg (σ.set i (some v)) H3 S6 As7 w rw' B2' := ok5b.thru (settle_no e2) fun b hb z => by
    rcases ow7 b z with z | z
    · exact (ok5b.there b hb).2.1 z
    · exact d12 b (sb4 b z) (sb5 b hb)
  obtain ⟨As8, R8, st8, ow8⟩ := put_ok R7 ok7 st7 (fun b hb => fr2' b (sb5 b hb)) e5
  have ok8 : RvOk X.K X.mg ((σ.set i (some v)).set j (some w)) H3 S6 As8 u ru' B3' := ok6.thru (settle_no e3) fun b hb z => by
    rcases ow8 b z with z | z
    · rcases ow7 b z with z | z
      · exact (ok6.there b hb).2.1 z
      · exact d13 b (sb4 b z) (sb6 b hb)
    · exact d23 b (sb5 b z) (sb6 b hb)
  obtain ⟨As9, R9, st9, ow9⟩ := put_ok R8 ok8 st8 (fun b hb => fr3' b (sb6 b hb)) e6
  exact ⟨v, w, u, rfl, h3 _ H3 S6 As9 st9 R9⟩
theorem iop_ints {o : Bop} {p q z : PV} (e : iopV o p q = some z) : ∃ a b c, p = .int a ∧ q = .int b ∧ z = .int c := by
  unfold iopV at e
  split at e <;> first | (cases e; exact ⟨_, _, _, rfl, rfl, rfl⟩) | cases e
theorem ls_aug {i : Nat} {x : Str} {o : Bop} {pos' : Pos} (ho : o = .add ∨ o = .sub) (hN : X.N.Nodup) (hi : X.N[i]? = some x) (hx : Loc X.env.scope x) (he : LE X W e fe) (hf : X.fn x = true ∨ X.env.scope.names.lookup x = some .local) :
    LS X W (.AugAssign (.Name x pos') (opOf o) e pos) (fun env => match get env i with
    | some (.fz p) => (fe env).bind fun r => match r.1 with
      | .val q => (optR (iopV o p q)).bind fun v => (optR (put i (.val v) r.2)).bind fun e1 => .ok (.nx, e1)
      | _ => .stuck
    | _ => .stuck) := by
  have hp : PIp X (opOf o) (fun x y H Q => ∃ a b c, x = .int a ∧ y = .int b ∧ iopV o (.int a) (.int b) = some (.int c) ∧ Q (.int c) H) := by
    intro pins s σ H x y v u Q I r1 r2 h
    obtain ⟨a, b, c, rfl, rfl, e, q⟩ := h
    rcases ho with rfl | rfl
    · cases e; exact ip_add pins s σ H _ _ v u Q I r1 r2 ⟨a, b, rfl, rfl, q⟩
    · cases e; exact ip_sub pins s σ H _ _ v u Q I r1 r2 ⟨a, b, rfl, rfl, q⟩
  refine PS.imp (ps_aug hN hi hx he hp hf) ?_
  rintro D σ H ⟨env, S, As, R, h⟩
  dsimp only at h
  cases hg : get env i with
  | none => rw [hg] at h; exact False.elim h
  | some c =>
    rw [hg] at h
    cases c with
    | fz p =>
      obtain ⟨v, v1, v2⟩ := R.cell i _ hg
      unfold CellOk at v2
      refine ⟨v, v1, liftE.mono (bindE Stp.refl R h) ?_⟩
      rintro w H1 ⟨rw, env1, S1, As1, B1, st1, R1, ok1, fr1, h1⟩
      cases rw with
      | val q =>
        obtain ⟨z, e1, h1⟩ := h1.opt
        obtain ⟨a, b, c, rfl, rfl, rfl⟩ := iop_ints e1
        obtain ⟨env2, e2, h1⟩ := Post.opt h1
        refine ⟨a, b, c, rp_int v2.1, rp_int ok1.1, e1, ?_⟩
        obtain ⟨As2, R2, st2, _⟩ := put_ok (v := .int c) (B := []) R1 (show RvOk X.K X.mg σ H1 S1 As1 (.int c) (.val (.int c)) [] from ⟨Rp.int _, rfl⟩) st1 (fun b hb => by cases hb) e2
        exact h1 _ H1 S1 As2 st2 R2
      | loc j => exact False.elim h1
      | new c => exact False.elim h1
      | brw j p c => exact False.elim h1
    | lst xs => exact False.elim h
    | ls xs => exact False.elim h
    | dct b xs => exact False.elim h
    | obj C fs => exact False.elim h
theorem ls_if (hc : LT X W c ft) (ha : LSs X W a fa) (hb : LSs X W b fb) : LS X W (.If c a b pos) (fun env => (ft env).bind fun r => match r.1 with
    | true => fa r.2
    | false => fb r.2) := by
  refine PS.imp (ps_if hc ha hb) ?_
  rintro D σ H ⟨env, S, As, R, h⟩
  refine liftT.mono (bindT Stp.refl R h) ?_
  rintro v H1 ⟨env1, S1, As1, st1, R1, h1⟩
  cases v with
  | true => exact iteT ⟨env1, S1, As1, R1, (Post.part st1 (Post.pass h1)).mono fun fl e h => KS.trans st1 h⟩
  | false => exact iteF ⟨env1, S1, As1, R1, (Post.part st1 (Post.pass h1)).mono fun fl e h => KS.trans st1 h⟩
theorem Res.assoc {α β γ : Type} (x : Res α) (g : α → Res β) (h : β → Res γ) : (x.bind g).bind h = x.bind fun a => (g a).bind h := by cases x <;> rfl
theorem ls_ret (he : LE X W e fe) : LS X W (.Return (some e) pos) (fun env => (fe env).bind fun r => (giveBack r.1 r.2).bind fun q => .ok (.rt q.1, q.2)) := by
  refine PS.imp (ps_ret he) ?_
  rintro D σ H ⟨env, S, As, R, h⟩
  refine liftE.mono (bindE Stp.refl R h) ?_
  rintro v H1 ⟨rv, env1, S1, As1, B1, st1, R1, ok1, fr1, h1⟩
  cases rv with
  | val p => exact h1 σ H1 S1 As1 st1 R1 v B1 ok1 fr1
  | new c => exact h1 σ H1 S1 As1 st1 R1 v B1 ok1 fr1
  | brw j p c =>
    dsimp only [giveBack] at h1
    rw [Res.assoc] at h1
    obtain ⟨⟨q, env2⟩, e1, h1⟩ := h1.opt
    obtain ⟨S2, As2, R2, st2, rp, _⟩ := take_ok R1 ok1 st1 fr1 e1
    exact h1 σ H1 S2 As2 st2 R2 v [] ⟨rp, rfl⟩ fun b hb => by cases hb
  | loc j =>
    dsimp only [giveBack] at h1
    cases hg : get env1 j with
    | none => rw [hg] at h1; exact False.elim h1
    | some c =>
      rw [hg] at h1
      obtain ⟨w, e1, hcw⟩ := R1.cell j c hg
      have : w = v := by simpa using e1.symm.trans ok1.1
      subst this
      have hf : ∀ b ∈ As1 j, S1 b = none := fun b hb => R1.free b ⟨j, hb⟩
      have mv : ∀ {c : Cell}, CellOk X.K X.mg H1 S1 w c (As1 j) → KS X.K X.mg D H S As (.rt (.new c)) (env1.set j none) → D.rt w H1 := fun {c} hc k => by
        obtain ⟨R2, st2⟩ := R1.drop j
        refine k _ H1 S1 _ (st1.trans st2) R2 w (As1 j) ⟨hc, fun b hb => ⟨fun ⟨k, hk⟩ => ?_, hf b hb⟩⟩ fun b hb => st1.fresh (.inr ⟨j, hb⟩)
        by_cases q : k = j
        · subst q; rw [updF_same] at hk; cases hk
        · rw [updF_ne q] at hk; exact R1.disj k j b q hk hb
      cases c with
      | fz p => unfold CellOk at hcw; exact h1 σ H1 S1 As1 st1 R1 w [] ⟨hcw.1, rfl⟩ (fun b hb => by cases hb)
      | lst xs => exact mv hcw h1
      | ls xs => exact mv hcw h1
      | dct b xs => exact mv hcw h1
      | obj C fs => exact mv hcw h1
theorem ls_retn : LS X W (.Return none pos) (fun env => .ok (.rt (.val .non), env)) := by
  refine PS.imp ps_retN ?_
  rintro D σ H ⟨env, S, As, R, h⟩
  exact h σ H S As Stp.refl R .non [] ⟨Rp.non, rfl⟩ (fun b hb => by cases hb)
theorem ls_rai {C : Str} {x : Addr} (hc : X.calm = true) (tk : Takes X W) (hm : X.mg C = some (.ref x)) (he : PMk X e (fun _ H Q => Q (.ref x) none H)) : LS X W (.Raise (some e) none pos) (fun env => .exc C [] env) := by
  refine PS.imp (ps_raise hc tk he) ?_
  rintro D σ H ⟨env, S, As, R, h⟩
  exact h σ H S As (.ref x) none Stp.refl R ⟨⟨x, hm, rfl⟩, rfl⟩
/-! ### loops -/
theorem Post.partG {α : Type} {K : PySem.W.Frag} {mg : Str → Option Value} {H S H₀ S₀ : Hp} {As As₀ : Fp} {r : Res Env} {g : Env → Res (α × Env)} {k : α → Env → Prop} (st : Stp H₀ S₀ As₀ H S As) (h : Post K mg W H₀ S₀ As₀ (r.bind g) k) : PostG K mg W H S As r (fun e => Post K mg W H₀ S₀ As₀ (g e) k) := by
  cases r with
  | ok a => exact h
  | exc C fs e => exact fun σ H' S' As' cls d s => h σ H' S' As' cls d (st.trans s)
  | stuck => exact h
theorem ls_for {tg it : Expr} {t : Tg} {fi : Env → Res ((List PV × RV) × Env)} {fg : PV → Env → Res Env} {body : List Stmt} {fb : Env → Res (Fl × Env)} (hp : PassesOwn (model X.prog X.w) X.A X.env X.xe) (hc : X.calm = true) (hi : LI X W tg it fi) (hg : LG X W tg t fg) (hb : LSs X W body fb)
    (hs : ∀ x, foldedSetIterable it X.env x = pure x) : LS X W (.For tg it body [] pos) (fun env => (fi env).bind fun r => match r.1.2 with
    | .val _ => forGo fg fb r.1.1 r.2
    | _ => .stuck) := by
  refine PS.imp (ps_for hp hc hi hg hb hs) ?_
  rintro D σ H ⟨env, S, As, R, h⟩
  refine liftI.mono (bindI Stp.refl R h) ?_
  rintro J H1 ⟨items, keep, env1, S1, As1, kv, kB, st1, R1, okk, frk, wk, h1⟩
  obtain ⟨pk, rfl⟩ : ∃ p, keep = .val p := by
    cases keep <;> first | exact ⟨_, rfl⟩ | exact False.elim h1
  obtain rfl : kB = [] := okk.2
  have pn : ∀ Hd, Same (pin H1 []) Hd := fun Hd => pin_same fun b hb => by cases hb
  let Iv : Nat → L2.St → Hp → Prop := fun i σ' Hc => ∃ env' S' As', Stp H S As Hc S' As' ∧ Same S1 S' ∧ Rel X.K X.mg σ' env' Hc S' As' ∧ Post X.K X.mg W H S As (forGo fg fb (items.drop i) env') (KS X.K X.mg D H S As)
  refine ⟨fun i m σ' Hc => m = items.length - i ∧ i ≤ items.length ∧ Iv i σ' Hc, ⟨_, rfl, Nat.zero_le _, env1, S1, As1, st1, Same.refl _, R1, h1⟩, ?_⟩
  rintro i m σc Hc ⟨rfl, hile, env', S', As', stc, smc, Rc, hrun⟩
  have sm : Same S1 Hc := smc.trans Rc.sub
  by_cases hlt : i < items.length
  · obtain ⟨hgoJ, hy⟩ := wk.item Hc sm (pn Hc) i items[i] (List.getElem?_eq_getElem hlt)
    refine .inr ⟨hgoJ, Iv (i + 1), fun σ' H' p' => ⟨items.length - (i + 1), by omega, rfl, hlt, p'⟩, fun x H3 y => ?_⟩
    obtain ⟨S3, R4, st4, rx⟩ := ((hy x H3 y).mono smc).lay Rc
    rw [List.drop_eq_getElem_cons hlt] at hrun
    unfold forGo at hrun
    refine ⟨env', S3, As', items[i], R4, rx, (Post.partG (stc.trans st4) hrun).imp ?_⟩
    intro e1 hrun σ5 H5 S5 As5 kp5 st5 R5
    have st05 := (stc.trans st4).trans st5
    have sm5 := (smc.trans st4.same).trans st5.same
    refine ⟨e1, S5, As5, R5, (Post.part st05 hrun).mono ?_⟩
    intro fl e2 h2 σ6 H6 S6 As6 st6 R6
    cases fl with
    | nx => exact ⟨e2, S6, As6, st05.trans st6, sm5.trans st6.same, R6, h2⟩
    | ct => exact ⟨e2, S6, As6, st05.trans st6, sm5.trans st6.same, R6, h2⟩
    | bk => exact h2 σ6 H6 S6 As6 (st05.trans st6) R6
    | rt r => exact fun v B ok fr => h2 σ6 H6 S6 As6 (st05.trans st6) R6 v B ok fun b hb => st05.fresh (fr b hb)
  · have e : i = items.length := by omega
    subst e
    rw [List.drop_length] at hrun
    exact .inl ⟨wk.stop Hc sm (pn Hc) _ (Nat.le_refl _), hrun σc Hc S' As' stc Rc⟩
theorem ls_while {body : List Stmt} {fb : Env → Res (Fl × Env)} (hp : PassesOwn (model X.prog X.w) X.A X.env X.xe) (hc : LT X W c ft) (hb : LSs X W body fb) : LS X W (.While c body [] pos) (whF ft fb) := by
  refine PS.imp (ps_while hp hc hb) ?_
  rintro D σ H ⟨env, S, As, R, h⟩
  have hex : ∃ n r, whN ft fb n env = some r := by
    by_cases z : ∃ n r, whN ft fb n env = some r
    · exact z
    · rw [whF_not fun n => ?_] at h
      · exact False.elim h
      · cases q : whN ft fb n env with
        | none => rfl
        | some r => exact absurd ⟨n, r, q⟩ z
  obtain ⟨n, r, hn⟩ := hex
  rw [whF_of hn] at h
  refine ⟨fun m σ' Hc => ∃ env' S' As', Stp H S As Hc S' As' ∧ Rel X.K X.mg σ' env' Hc S' As' ∧ whN ft fb m env' = some r, ⟨n, env, S, As, Stp.refl, R, hn⟩, ?_⟩
  rintro m σc Hc ⟨env', S', As', stc, Rc, hm⟩
  cases m with
  | zero => cases hm
  | succ m =>
    unfold whN at hm
    refine ⟨env', S', As', Rc, ?_⟩
    cases ht : ft env' with
    | stuck => rw [ht] at hm; cases hm; exact False.elim h
    | exc C fs e => rw [ht] at hm; cases hm; exact fun σ' H' S' As' cls d s => h σ' H' S' As' cls d (stc.trans s)
    | ok q =>
      obtain ⟨k, e1⟩ := q
      rw [ht] at hm
      intro H2 S2 As2 st2 R2
      cases k with
      | false =>
        cases hm
        exact iteF (h σc H2 S2 As2 (stc.trans st2) R2)
      | true =>
        simp only at hm
        refine iteT ⟨fun σ' H' => ∃ m', m' < m + 1 ∧ ∃ env' S' As', Stp H S As H' S' As' ∧ Rel X.K X.mg σ' env' H' S' As' ∧ whN ft fb m' env' = some r, fun _ _ z => z, e1, S2, As2, R2, ?_⟩
        have st02 := stc.trans st2
        cases hbr : fb e1 with
        | stuck => rw [hbr] at hm; cases hm; exact False.elim h
        | exc C fs e => rw [hbr] at hm; cases hm; exact fun σ' H' S' As' cls d s => h σ' H' S' As' cls d (st02.trans s)
        | ok q =>
          obtain ⟨fl, e2⟩ := q
          rw [hbr] at hm
          intro σ3 H3 S3 As3 st3 R3
          cases fl with
          | nx => exact ⟨m, Nat.lt_succ_self _, e2, S3, As3, st02.trans st3, R3, hm⟩
          | ct => exact ⟨m, Nat.lt_succ_self _, e2, S3, As3, st02.trans st3, R3, hm⟩
          | bk => cases hm; exact h σ3 H3 S3 As3 (st02.trans st3) R3
          | rt u => cases hm; exact fun v B ok fr => h σ3 H3 S3 As3 (st02.trans st3) R3 v B ok fun b hb => st02.fresh (fr b hb)
end
end PL
set_option Elab.async false
set_option linter.all false
set_option maxRecDepth 100000
set_option maxHeartbeats 1000000
namespace PL
open PySem PySem.Spec PyProof.Rows L2
/-! ### a part is written -/
section
variable {K : PySem.W.Frag} {mg : Str → Option Value} {H H' S S' H₀ S₀ : Hp} {As As' As₀ : Fp} {σ : SlotV} {env : Env}
theorem wrt_ok (R : Rel K mg σ env H S As) (st : Stp H₀ S₀ As₀ H S As) {v : V} {rv : RV} {B : List Addr} {c d : Cell} {env' : Env} {b : Addr} {o : HO} (ok : RvOk K mg σ H S As v rv B) (fr : ∀ b ∈ B, H₀ b = none ∨ Own As₀ b) (e : vwC env rv = some c) (hw : wrt rv d env = .ok env')
    (hc : ∀ D, CellOk K mg H S v c D → b ∈ D ∧ ∃ D', CellOk K mg (upd H b o) S v d D' ∧ ∀ x ∈ D', x ∈ D) : v = .ref b → ∃ As', Rel K mg σ env' (upd H b o) S As' ∧ Stp H₀ S₀ As₀ (upd H b o) S As' := by
  intro hv
  cases rv with
  | val p => cases hw
  | new p => cases hw
  | loc j =>
    cases hw
    obtain ⟨w, e1, e2⟩ := R.cell j _ e
    obtain rfl : w = v := by simpa using e1.symm.trans ok.1
    obtain ⟨hb, D', hD, hs⟩ := hc _ e2
    have hS : S b = none := R.free b ⟨j, hb⟩
    have sub : Same S (upd H b o) := fun x u q => by rw [upd_ne fun z => by rw [z, hS] at q; cases q]; exact R.sub x u q
    have R2 := R.chg (i := j) (v := w) (c := some d) (B := D') (H' := upd H b o) (S' := S) (get_lt e) sub (Same.refl _) (fun k x n hx => upd_ne fun z => R.disj k j x n hx (z ▸ hb)) (fun k x n hx => R.free x ⟨k, hx⟩) hD (fun x hx => ⟨fun k n z => R.disj k j x n z (hs x hx), R.free x ⟨j, hs x hx⟩⟩)
      (fun z a r q => by
        subst z
        obtain ⟨a', r', h1, h2⟩ : ∃ a' r', As 0 = a' :: r' ∧ w = .ref a' := by
          cases hA : As 0 with
          | nil => rw [hA] at hb; cases hb
          | cons a' r' => exact ⟨a', r', rfl, e2.root hA⟩
        have := hD.root q
        rw [h2] at this
        cases this
        exact R.anc _ _ h1)
    rw [set_self ok.1] at R2
    refine ⟨_, R2, st.same, fun x u q n => ?_, fun x ⟨k, hk⟩ => ?_, st.new, st.root⟩
    · rw [upd_ne fun z => ?_]
      · exact st.fr x u q n
      · subst z
        rcases st.own x ⟨j, hb⟩ with y | y
        · exact n y
        · rw [y] at q; cases q
    · by_cases q : k = j
      · subst q; rw [updF_same] at hk; exact st.own x ⟨k, hs x hk⟩
      · rw [updF_ne q] at hk; exact st.own x ⟨k, hk⟩
  | brw j p c0 =>
    cases hw
    obtain ⟨v0, d0, h0, h1, hg, h2, h3, h4⟩ := ok
    obtain ⟨w, B0, k1, k2, k3, k4⟩ := h1.part e
    obtain rfl : w = v := AtP.inj k1 h2
    obtain ⟨hb, D', hD, hs⟩ := hc _ k2
    have hbB := k3 b hb
    have hS : S b = none := (h3 b hbB).2
    have sub : Same S (upd H b o) := fun x u q => by rw [upd_ne fun z => by rw [z, hS] at q; cases q]; exact R.sub x u q
    obtain ⟨B', m1, m2, m3⟩ := k4 (upd H b o) S d D' hD (Same.refl _) (fun x hx n => upd_ne fun z => n (z ▸ hb)) fun x hx => .inl (hs x hx)
    have hB' : ∀ x ∈ B', x ∈ B := fun x hx => (m2 x hx).elim (fun z => k3 x (hs x z)) fun z => z.1
    obtain ⟨R2, st2⟩ := R.giveIn (H' := upd H b o) (S' := S) st h0 sub (Same.refl _) m1 (fun x hx => ⟨upd_ne fun z => (h3 b hbB).1 (z ▸ hx), R.free x hx⟩) (fun x hx => h3 x (hB' x hx)) (fun x hx => fr x (hB' x hx))
      (fun z a r q => by
        obtain ⟨a', r', hA⟩ : ∃ a' r', B = a' :: r' := by
          cases B with
          | nil => cases hbB
          | cons a' r' => exact ⟨a', r', rfl⟩
        have r1 := h1.root hA
        have r2 := m1.root q
        rw [r1] at r2
        cases r2
        exact h4 z _ _ hA)
      (fun x u q n => by
        rw [upd_ne fun z => ?_]
        · exact st.fr x u q n
        · subst z
          rcases fr x hbB with y | y
          · rw [y] at q; cases q
          · exact n y) st.new
    exact ⟨_, R2, st2⟩
end
/-! ### methods of lists -/
/-- what a method's rule gives: a value; the list's object written -/
structure MOk (K : PySem.W.Frag) (mg : Str → Option Value) (r : V → List V → Hp → VK → Prop) (m : Str) : Prop where
  wr : ∀ {H S : Hp} {v : V} {c d : Cell} {D : List Addr} {vs : List V} {ps : List PV} {rv : PV}, Same S H → mthC m c ps = some (rv, some d) → kindC c = "list" → CellOk K mg H S v c D → Rps K mg S vs ps →
    ∃ b o z, v = .ref b ∧ Rp K mg S z rv ∧ (∀ D, CellOk K mg H S v c D → b ∈ D ∧ ∃ D', CellOk K mg (upd H b o) S v d D' ∧ ∀ x ∈ D', x ∈ D) ∧ ∀ Q : VK, Q z (upd H b o) → r v vs H Q
  rd : ∀ {H S : Hp} {v : V} {c : Cell} {D : List Addr} {vs : List V} {ps : List PV} {rv : PV}, Same S H → mthC m c ps = some (rv, none) → kindC c = "list" → CellOk K mg H S v c D → Rps K mg S vs ps → ∃ z, Rp K mg S z rv ∧ ∀ Q : VK, Q z H → r v vs H Q
section
variable {X : Cx} {W : WX} {mg : Str → Option Value}
/-- a list alone is written -/
theorem lst_wr {K : PySem.W.Frag} {H S : Hp} {a : Addr} {xs ys : List PV} {ws : List V} (sub : Same S H) (h : Rps K mg S ws ys) : ∀ D, CellOk K mg H S (.ref a) (.lst xs) D → a ∈ D ∧ ∃ D', CellOk K mg (upd H a (.lst ws)) S (.ref a) (.lst ys) D' ∧ ∀ x ∈ D', x ∈ D := by
  intro D hD
  unfold CellOk at hD
  obtain ⟨a', vs, e, h1, h2, rfl⟩ := hD
  cases e
  refine ⟨List.mem_cons_self, [a], ?_, fun x hx => hx⟩
  unfold CellOk
  exact ⟨a, ws, rfl, upd_same, h, rfl⟩
theorem mthR_no {m : Str} (h1 : m ≠ "index") (h2 : m ≠ "get") (p : PV) (ps : List PV) : mthR m p ps = none := by
  unfold mthR
  rw [if_neg h1, if_neg h2]
theorem mthC_wr {m : Str} {c : Cell} {ps : List PV} (h1 : m ≠ "index") (h2 : m ≠ "get") : mthC m c ps = (match c with
    | .lst xs => (mthL m xs ps).map fun z => (z.1, some (.lst z.2))
    | .ls cs => if m = ("append" : Str) then (match ps with
      | [p] => if cs.length < sizeLine then some (.non, some (.ls (cs ++ [.fz p]))) else none
      | _ => none) else none
    | _ => none) := by
  unfold mthC
  rw [mthR_no h1 h2]
  all_goals (cases c <;> rfl)
theorem CellsOk.snoc {K : PySem.W.Frag} {H S : Hp} {w : V} {p : PV} (hp : Rp K mg S w p) : ∀ {cs : List Cell} {vs : List V} {B : List Addr}, CellsOk K mg H S vs cs B → CellsOk K mg H S (vs ++ [w]) (cs ++ [.fz p]) B
  | [], vs, B, h => by
    unfold CellsOk at h
    obtain ⟨rfl, rfl⟩ := h
    show CellsOk K mg H S [w] [.fz p] []
    unfold CellsOk
    refine ⟨w, [], [], [], rfl, rfl, by unfold CellOk; exact ⟨hp, rfl⟩, by unfold CellsOk; exact ⟨rfl, rfl⟩, fun b hb => by cases hb⟩
  | c :: cs, vs, B, h => by
    unfold CellsOk at h
    obtain ⟨v, r, B1, B2, rfl, rfl, h1, h2, h3⟩ := h
    show CellsOk K mg H S (v :: (r ++ [w])) (c :: (cs ++ [.fz p])) (B1 ++ B2)
    unfold CellsOk
    exact ⟨v, r ++ [w], B1, B2, rfl, rfl, h1, CellsOk.snoc hp h2, h3⟩
theorem mm_append : MOk X.K mg rAppend "append" := by
  constructor
  · intro H S v c d D vs ps rv sub e hk hc rs
    rw [mthC_wr (by decide) (by decide)] at e
    cases c with
    | lst xs =>
      simp only [mthL, if_pos] at e
      cases ps with
      | nil => cases e
      | cons p r => cases r with
        | cons _ _ => cases e
        | nil =>
          dsimp only at e
          split at e
          · rename_i hz
            cases e
            unfold CellOk at hc
            obtain ⟨a, us, rfl, h1, h2, rfl⟩ := hc
            obtain ⟨w, r, rfl, h4, h5⟩ := rs.uncons
            have : r = [] := by unfold Rps at h5; exact h5
            subst this
            exact ⟨a, _, .non, rfl, Rp.non, lst_wr sub (h2.append (Rps.cons h4 Rps.nil)), fun Q q => ⟨a, us, w, rfl, rfl, h1, by rw [h2.length]; exact hz, q⟩⟩
          · cases e
    | ls cs =>
      dsimp only at e
      rw [if_pos rfl] at e
      cases ps with
      | nil => cases e
      | cons p r => cases r with
        | cons _ _ => cases e
        | nil =>
          dsimp only at e
          split at e
          · rename_i hz
            cases e
            unfold CellOk at hc
            obtain ⟨a, us, Bs, rfl, h1, h2, h3, rfl⟩ := hc
            obtain ⟨w, r, rfl, h4, h5⟩ := rs.uncons
            have : r = [] := by unfold Rps at h5; exact h5
            subst this
            refine ⟨a, .lst (us ++ [w]), .non, rfl, Rp.non, fun D hD => ?_, fun Q q => ⟨a, us, w, rfl, rfl, h1, by rw [h2.length]; exact hz, q⟩⟩
            unfold CellOk at hD
            obtain ⟨a', us', Bs', e, g1, g2, g3, rfl⟩ := hD
            cases e
            rw [h1] at g1
            cases g1
            refine ⟨List.mem_cons_self, a :: Bs', ?_, fun x hx => hx⟩
            unfold CellOk
            exact ⟨a, us ++ [w], Bs', rfl, upd_same, CellsOk.snoc h4 (CellsOk.fr (Same.refl _) _ _ _ g2 fun b hb => upd_ne fun z => g3 (z ▸ hb)), g3, rfl⟩
          · cases e
    | _ => cases e
  · intro H S v c D vs ps rv sub e hk hc rs
    rw [mthC_wr (by decide) (by decide)] at e
    cases c with
    | lst xs => dsimp only at e; cases q : mthL "append" xs ps <;> rw [q] at e <;> cases e
    | ls cs =>
      dsimp only at e
      rw [if_pos rfl] at e
      cases ps with
      | nil => cases e
      | cons p r => cases r with
        | cons _ _ => cases e
        | nil => dsimp only at e; split at e <;> cases e
    | _ => cases e
theorem mthL_pop (xs ps : List PV) : mthL "pop" xs ps = (match ps with
        | [] => (xs[xs.length - 1]?).map fun y => (y, xs.dropLast)
        | [.int i] => if -(2 ^ 63) ≤ i ∧ i < 2 ^ 63 then (match seqIndex? i xs.length with
          | some k => (xs[k]?).map fun y => (y, xs.eraseIdx k)
          | none => none) else none
        | _ => none) := by
  unfold mthL
  rw [if_neg (by decide), if_pos rfl]
  all_goals rfl
theorem mm_pop : MOk X.K mg (fun x vs H Q => rPop x vs H Q ∨ rPopAt x vs H Q) "pop" := by
  constructor
  · intro H S v c d D vs ps rv sub e hk hc rs
    rw [mthC_wr (by decide) (by decide)] at e
    cases c with
    | lst xs =>
      dsimp only at e
      rw [mthL_pop] at e
      unfold CellOk at hc
      obtain ⟨a, us, rfl, h1, h2, rfl⟩ := hc
      cases ps with
      | nil =>
        simp only [Option.map_eq_some_iff] at e
        obtain ⟨⟨y1, y2⟩, ⟨y, e1, e2⟩, e3⟩ := e
        cases e2
        cases e3
        have : vs = [] := by unfold Rps at rs; exact rs
        subst this
        obtain ⟨w, w1, w2⟩ := h2.get e1
        rw [← h2.length] at w1
        exact ⟨a, _, w, rfl, w2, lst_wr sub h2.dropLast, fun Q q => .inl ⟨a, us, w, rfl, rfl, h1, w1, q⟩⟩
      | cons p r => cases r with
        | cons _ _ => cases p <;> cases e
        | nil => cases p with
          | int i =>
            dsimp only at e
            by_cases hz : -(2 ^ 63) ≤ i ∧ i < 2 ^ 63
            · rw [if_pos hz] at e
              cases hk2 : seqIndex? i xs.length with
              | none => rw [hk2] at e; cases e
              | some k =>
                rw [hk2] at e
                simp only [Option.map_eq_some_iff] at e
                obtain ⟨⟨y1, y2⟩, ⟨y, e1, e2⟩, e3⟩ := e
                cases e2
                cases e3
                obtain ⟨w0, r, rfl, h4, h5⟩ := rs.uncons
                have : r = [] := by unfold Rps at h5; exact h5
                subst this
                rw [rp_int h4]
                obtain ⟨w, w1, w2⟩ := h2.get e1
                exact ⟨a, _, w, rfl, w2, lst_wr sub h2.eraseIdx, fun Q q => .inr ⟨a, us, i, k, w, rfl, rfl, h1, hz.1, hz.2, by rw [h2.length]; exact hk2, w1, q⟩⟩
            · rw [if_neg hz] at e; cases e
          | _ => cases e
    | ls cs => dsimp only at e; rw [if_neg (by decide)] at e; cases e
    | _ => cases e
  · intro H S v c D vs ps rv sub e hk hc rs
    rw [mthC_wr (by decide) (by decide)] at e
    cases c with
    | lst xs => dsimp only at e; cases q : mthL "pop" xs ps <;> rw [q] at e <;> cases e
    | ls cs => dsimp only at e; rw [if_neg (by decide)] at e; cases e
    | _ => cases e
variable {o e : Expr} {es : List Expr} {apos cpos : Pos} {fo : Env → Res (RV × Env)} {fs : Env → Res (List PV × Env)} {m : Str} {id : String} {r : V → List V → Hp → VK → Prop}
/-- is a list meant? -/
theorem kind_list {K : PySem.W.Frag} {H S : Hp} {v : V} {c : Cell} {D : List Addr} (sub : Same S H) (h : CellOk K mg H S v c D) (k : kindC c = "list") : ∃ a xs, v = .ref a ∧ SqL K H a xs := by
  cases c with
  | lst xs => unfold CellOk at h; obtain ⟨a, vs, rfl, h1, _⟩ := h; exact ⟨a, vs, rfl, SqL.of h1⟩
  | ls xs => unfold CellOk at h; obtain ⟨a, vs, Bs, rfl, h1, _⟩ := h; exact ⟨a, vs, rfl, SqL.of h1⟩
  | fz p =>
    unfold CellOk at h
    cases p with
    | lst xs => obtain ⟨a, vs, rfl, h1, _⟩ := rp_lst h.1; exact ⟨a, vs, rfl, SqL.of (sub _ _ h1)⟩
    | _ => cases k
  | _ => cases k
theorem imp_mth {K : PySem.W.Frag} {σ : SlotV} {H : Hp} {Q : VK} (M : MOk K mg r m) (h : liftE K mg W (fun env => (fo env).bind fun r => if (match vwC r.2 r.1 with | some c => kindC c == ("list" : Str) | none => false) = true then mthV m fs r else .stuck) σ H Q) : tBM K "list" r (liftE K mg W fo) (liftTs K mg W fs) σ H Q := by
  obtain ⟨env, S, As, R, h⟩ := h
  refine liftE.mono (bindE Stp.refl R h) ?_
  rintro v H1 ⟨rv, env1, S1, As1, B1, st1, R1, ok1, fr1, h1⟩
  dsimp only at h1
  cases hv : vwC env1 rv with
  | none => rw [hv] at h1; exact False.elim h1
  | some c0 =>
    rw [hv] at h1
    dsimp only at h1
    by_cases hk0 : (kindC c0 == ("list" : Str)) = true
    · rw [if_pos hk0] at h1
      have hk : kindC c0 = "list" := eq_of_beq hk0
      obtain ⟨D0, hD0⟩ := R1.vw ok1 hv
      obtain ⟨a0, xs0, rfl, hs0⟩ := kind_list R1.sub hD0 hk
      refine ⟨.inl ⟨rfl, xs0, hs0⟩, ?_⟩
      unfold mthV at h1
      dsimp only at h1
      rw [hv] at h1
      dsimp only at h1
      refine liftTs.mono (bindTs st1 R1 h1) ?_
      rintro vs H2 ⟨ps, env2, S2, As2, st2, R2, rs, h2⟩
      dsimp only at h2
      have ok2 := ok1.stp st2
      cases hv2 : vwC env2 rv with
      | none => rw [hv2] at h2; exact False.elim h2
      | some c =>
        rw [hv2] at h2
        dsimp only at h2
        by_cases hkc : kindC c = kindC c0
        · rw [if_pos hkc] at h2
          obtain ⟨D, hD⟩ := R2.vw ok2 hv2
          cases hm : mthC m c ps with
          | none => rw [hm] at h2; exact False.elim h2
          | some z =>
            obtain ⟨zv, zo⟩ := z
            rw [hm] at h2
            cases zo with
            | none =>
              dsimp only at h2
              obtain ⟨z, z1, z2⟩ := M.rd R2.sub hm (hkc.trans hk) hD rs
              exact z2 Q (finUP (rs := [rv]) (st1.trans st2) R2 (rvs1 ok2) (nil_fr fr1) z1 h2)
            | some d =>
              dsimp only at h2
              obtain ⟨b, o, z, hb, z1, z2, z3⟩ := M.wr R2.sub hm (hkc.trans hk) hD rs
              cases hw : wrt rv d env2 with
              | stuck => rw [hw] at h2; exact False.elim h2
              | exc C fs' e' => cases rv <;> cases hw
              | ok env3 =>
                rw [hw] at h2
                obtain ⟨As3, R3, st3⟩ := wrt_ok R2 (st1.trans st2) ok2 fr1 hv2 hw z2 hb
                exact z3 Q (h2 z _ S2 As3 [] st3 R3 ⟨z1, rfl⟩ fun b hb => by cases hb)
        · rw [if_neg hkc] at h2; exact False.elim h2
    · rw [if_neg hk0] at h1; exact False.elim h1
def mths : List Str := ["append", "pop"]
theorem mth_ok (hm : m ∈ mths) : ∃ id r, Slot "list" m id ∧ typeOf (.builtin id) = pure (.type "method_descriptor") ∧ MtR X id r ∧ MOk X.K mg r m := by
  simp only [mths, List.mem_cons, List.not_mem_nil, or_false] at hm
  rcases hm with rfl | rfl
  · exact ⟨_, _, PySem.F.slot_list_append, PySem.F.type_list_append, mt_append, mm_append⟩
  · exact ⟨_, _, PySem.F.slot_list_pop, PySem.F.type_list_pop, MtR.or mt_pop mt_popAt, mm_pop⟩
/-- a method of a list -/
abbrev fMth (m : Str) (fo : Env → Res (RV × Env)) (fs : Env → Res (List PV × Env)) : Env → Res (RV × Env) := fun env => (fo env).bind fun r => if (match vwC r.2 r.1 with | some c => kindC c == ("list" : Str) | none => false) = true then mthV m fs r else .stuck
theorem le_mth0 (hm : m ∈ mths) (ho : LE X W o fo) (hbase : attributeBase o m X.env (eval o X.env) = eval o X.env) (hline : (apos.endLine == cpos.line) = true) :
    LE X W (.Call (.Attribute o m apos) [] [] cpos) (fMth m fo (fun env => .ok ([], env))) := by
  obtain ⟨id, r, h1, h2, h3, h4⟩ := mth_ok (X := X) (mg := X.mg) hm
  refine PE.imp (pe_bm0 PySem.F.plainAttrs_list h1 h2 h3 ho hbase hline) fun σ H Q h => ?_
  exact liftE.mono (imp_mth h4 h) fun x H1 ⟨a, b⟩ => ⟨a, by
    obtain ⟨env, S, As, R, p⟩ := b
    exact p [] H1 S As Stp.refl R Rps.nil⟩
theorem le_mth (hm : m ∈ mths) (ho : LE X W o fo) (ha : LTs X W (e :: es) fs) (hbase : attributeBase o m X.env (eval o X.env) = eval o X.env)
    (hfew : ((backTo cpos (starEach (e :: es) X.env)).all (fun x => !x.1) && (backToKw cpos (keywordEach [] X.env)).all (fun x => x.1.isSome)
      && decide ((e :: es).length + ([] : List Keyword).length + (if ([] : List Keyword).isEmpty then 0 else 1) < 30)) = true) (hline : (apos.endLine == cpos.line) = true)
    (hs : starEach (e :: es) X.env = (false, eval e X.env) :: starEach es X.env) (hpl : (backTo cpos (starEach es X.env)).any (·.1) = false) :
    LE X W (.Call (.Attribute o m apos) (e :: es) [] cpos) (fMth m fo fs) := by
  obtain ⟨id, r, h1, h2, h3, h4⟩ := mth_ok (X := X) (mg := X.mg) hm
  exact PE.imp (pe_bm PySem.F.plainAttrs_list h1 h2 h3 ho ha hbase hfew hline hs hpl) fun σ H Q h => imp_mth h4 h
end

end PL
set_option Elab.async false
set_option linter.all false
set_option maxRecDepth 100000
set_option maxHeartbeats 1000000
namespace L2
open PySem PySem.Spec PyProof.Rows
/-! ### dict comprehensions, keys of either kind -/
/-- an empty dict -/
def oE (b : Bool) : HO := match b with
  | true => .dT []
  | false => .dK []
theorem oE_ok {P : Program} {w : World} {H : Hp} {b : Bool} (h : Heap) (hb : sysModules < h.objs.size) : ObjOk P w H (h.push { cls := .type "dict", data := .dict #[] }) h.objs.size (oE b) := by
  cases b with
  | true => exact dt_empty h hb
  | false => exact dk_empty h hb
/-- D[k] = v by a comprehension -/
theorem d_dictSetA {X : Cx} {pins : List (Addr × Obj)} {σ : St} {H H' : Hp} {s : Shared} {E : Value → Shared → Prop} {D : Addr} {y v : V} {u r : Value} {Q : Unit → Shared → Prop} (hu : X.A.units + 1 < cLine) (I : Inv X pins σ H s) (g : DPut H D y v H')
    (ry : RelV y u) (rv : RelV v r) (h : ∀ s', Inv X pins σ H' s' → Q () s') : wpAny (model X.prog X.w) X.A (dictSet D u r) Q E s := by
  rcases g with ⟨kvs, k, e, ey, l, eH⟩ | ⟨kvs, k, b, e, ey, eb, l, eH⟩
  · subst ey eH
    exact d_dictSet I e l ry rv h
  · subst ey eH
    cases (show u = Value.ref b from ry)
    obtain ⟨z, hd, xs, rel, dd⟩ := dt_of I.hok e
    have hz : xs.length ≤ sizeLine := by rw [← Paired.length rel]; exact z
    have hl : (putK kvs k v).length ≤ sizeLine := by have := length_putK kvs k v; omega
    refine wpAny_dictSet_heap (hsz := hz) (by show X.A.units < cLine; omega) (key_of I.hok eb) dd fun h' dd' hs => h _ ?_
    obtain ⟨q, es, ep, hq, h2, h3, h4, _, h5⟩ := dd'
    refine d_write I (by rw [e]; exact True.intro) hs ⟨q, hq⟩ ⟨hl, hd, _, (rel.put k eb rv).keeps fun c ys ec => ?_, q, es, ep, hq, h2, h3, h4, h5⟩
    rw [upd_ne (ne_of ec e (fun z => nomatch z))]
    exact ec
section
variable {X : Cx} {b0 : Bool}
/-- {k: v for target in iter if ..}, keys ints or texts: D the new dict -/
def tDcA (b0 : Bool) (wi : TI) (g : TG) (tt : TT) (tk tv : TE) (vs : List Nat) : TE := fun σ H Q => wi σ H fun J H1 => ∀ D, H1 D = none → ∃ W : Nat → Nat → Hp → Prop, (∃ m, W 0 m (upd H1 D (oE b0))) ∧ ∀ i m H, W i m H →
  (J.stop i H ∧ Q (.ref D) H) ∨ (J.go i H ∧ ∃ Nx : Hp → Prop, (∀ H', Nx H' → ∃ m', m' < m ∧ W (i + 1) m' H') ∧ ∀ x H', J.yld i H x H' → g x (wipe σ vs) H' fun σ2 H2 => wipe σ2 vs = wipe σ vs ∧ tt σ2 H2 fun b H3 =>
    if b = true then tk σ2 H3 fun y H4 => tv σ2 H4 fun z H5 => ∃ H6, DPut H5 D y z H6 ∧ Nx H6 else Nx H3)
theorem dcA_core {pins : List (Addr × Obj)} {s : Shared} {σ : St} {H : Hp} {Q : VK} {kx vx tg iter : Expr} {ifs : List Expr} {scope : Scope} {own : List (Str × Nat)} {pos pos' : Pos} {wi : TI} {g : TG} {tt : TT} {tk tv : TE} {use : Option (Value → Sem Unit)} {Qf : Value → Shared → Prop}
    (hu : X.A.units + 1 < cLine) (hc : X.calm = true) (hN : X.N.Nodup) (I : Inv X pins σ H s) (hi : PI X tg iter wi) (ok : BlkOk X.N X.env.scope scope own)
    (hg : ∀ (s : Shared) (H : Hp) (C : Addr) (cl : List (Str × Addr)) (fp : List Addr), PG (X.blk s H scope (compEnvC scope cl C X.env) fp) tg g) (ht : ∀ (s : Shared) (H : Hp) (C : Addr) (cl : List (Str × Addr)) (fp : List Addr), PTs (X.blk s H scope (compEnvC scope cl C X.env) fp) ifs tt)
    (hk : ∀ (s : Shared) (H : Hp) (C : Addr) (cl : List (Str × Addr)) (fp : List Addr), PE (X.blk s H scope (compEnvC scope cl C X.env) fp) kx tk)
    (he : ∀ (s : Shared) (H : Hp) (C : Addr) (cl : List (Str × Addr)) (fp : List Addr), PE (X.blk s H scope (compEnvC scope cl C X.env) fp) vx tv) (hs : ∀ x, foldedSetIterable iter X.env x = pure x)
    (h : tDcA b0 wi g tt tk tv (own.map (·.2)) σ H Q)
    (hRR : ∀ D C s' m H', Inv X pins σ H' s' → Q (.ref D) H' → s'.heap.Ns C m → FpOk X pins H' C → compPost (model X.prog X.w) X.A X.xe use Qf (.ref D) C (.ok .next) s') :
    wpAny (model X.prog X.w) X.A (comprehension (.DictComp kx vx [⟨tg, iter, ifs, 0⟩] scope pos) scope X.env pos' newDict false (eval iter X.env) use) Qf X.xe s := by
  have hfree : ∀ y ∈ scope.names, y.2 = .free → ∃ c, X.env.cells.lookup y.1 = some c := fun y hy e => by
    rcases ok.free y hy e with k | k
    · exact I.ok.has _ (.inl k)
    · exact I.ok.has _ (.inr k)
  refine wpAny_comprehension_free (use := use) rfl hs (closure_ok hfree) ok.kind (fun y hy e => by rw [ok.uniq y hy, e])
    (thn (hi.run pins s σ H _ I h) fun xv s1 hx => thn hx fun itv s2 h2 => ?_)
  obtain ⟨it, fp, tn, J, H2, e, I2, T, st2, f2, q⟩ := h2
  subst e
  refine wpAny_newObj_type (newEnv_comp ?_)
  generalize hD : s2.heap.objs.size = D
  have hDn : H2 D = none := I2.hok.fresh (Nat.le_of_eq hD)
  obtain ⟨W, ⟨m0, w0⟩, turn⟩ := q D hDn
  -- the new list
  generalize hs3 : ({ s2 with heap := s2.heap.push { cls := .type "dict", data := .dict #[] } } : Shared) = s3
  have I3 : Inv X pins σ (upd H2 D (oE b0)) s3 := by
    rw [← hs3]
    refine I2.laid (t' := s2.toks) (fun b o e => Heap.get?_push_of_some _ e) (Nat.le_of_eq hD) ?_
    rw [← hD]
    exact oE_ok s2.heap I2.big
  have h3 : s3.heap = s2.heap.push { cls := .type "dict", data := .dict #[] } := by rw [← hs3]
  have sz : ∀ b ∈ fp, b < s2.heap.objs.size := fun b hb => by
    obtain ⟨o, e, _⟩ := T.obj _ _ st2 b hb
    exact Heap.lt_size e
  have f3 : ∀ b ∈ fp, FpOk X pins (upd H2 D (oE b0)) b ∧ b < s3.heap.objs.size := fun b hb => by
    have hlt := sz b hb
    refine ⟨⟨?_, (f2 b hb).2⟩, by rw [h3, Heap.size_push]; exact Nat.lt_succ_of_lt hlt⟩
    rw [upd_ne (by rw [← hD]; exact Nat.ne_of_lt hlt)]
    exact (f2 b hb).1
  have st3 : tn 0 s3.heap := T.keep _ _ _ st2 fun b _ o e => by rw [h3]; exact Heap.get?_push_of_some _ e
  have I4 := block_start I3 ok hN f3
  have pg := hg s3 (upd H2 D (oE b0)) s3.heap.objs.size (cellsFrom (s3.heap.objs.size + 1) scope.names (cloFrom X.env.cells scope.names [])) fp
  have pt := ht s3 (upd H2 D (oE b0)) s3.heap.objs.size (cellsFrom (s3.heap.objs.size + 1) scope.names (cloFrom X.env.cells scope.names [])) fp
  have pk := hk s3 (upd H2 D (oE b0)) s3.heap.objs.size (cellsFrom (s3.heap.objs.size + 1) scope.names (cloFrom X.env.cells scope.names [])) fp
  have pe := he s3 (upd H2 D (oE b0)) s3.heap.objs.size (cellsFrom (s3.heap.objs.size + 1) scope.names (cloFrom X.env.cells scope.names [])) fp
  show codeAny _ _ (.compStart (.DictComp kx vx [⟨tg, iter, ifs, 0⟩] scope pos) 0 (.ref it) (.ref D) (compEnvC scope (cellsFrom (s3.heap.objs.size + 1) scope.names (cloFrom X.env.cells scope.names [])) s3.heap.objs.size X.env)) (compPost (model X.prog X.w) X.A X.xe use Qf (.ref D) s3.heap.objs.size) { s3 with heap := pushCells (s3.heap.push { cls := .type "dict", data := .dict #[] }) scope.names }
  have nfp : ∀ b ∈ fp, (upd H2 D (oE b0)) b = none := fun b hb => (f3 b hb).1.1
  generalize hce : compEnvC scope (cellsFrom (s3.heap.objs.size + 1) scope.names (cloFrom X.env.cells scope.names [])) s3.heap.objs.size X.env = ce at I4 pg pt pk pe ⊢
  have cL : ce.locals = s3.heap.objs.size := by subst hce; rfl
  generalize hH3 : upd H2 D (oE b0) = H3 at I3 I4 pg pt pk pe w0 nfp f3
  generalize hs4 : ({ s3 with heap := pushCells (s3.heap.push { cls := .type "dict", data := .dict #[] }) scope.names } : Shared) = s4 at I4 ⊢
  have st4 : tn 0 s4.heap := T.keep _ _ _ st3 fun b _ o e => by rw [← hs4]; exact pushCells_keeps _ _ _ _ (Heap.get?_push_of_some _ e)
  have stat : ∀ {σ' : St} {H' : Hp} {s' : Shared}, Inv (X.blk s3 H3 scope ce fp) [] σ' H' s' → (∀ b ∈ fp, H' b = none) → ∀ b ∈ fp, FpOk (X.blk s3 H3 scope ce fp) [] H' b := fun {σ' H' s'} I' hn b hb =>
    ⟨hn b hb, (I'.ok.exf b hb).1, I'.ok.exfs b hb, .inl hb, fun x c e => (I'.ok.exf b hb).2 x c e, fun p hp => absurd (show p ∈ ([] : List (Addr × Obj)) ++ [] from hp) (by simp)⟩
  have loop : codeAny (model X.prog X.w) X.A (.compLoop (.DictComp kx vx [⟨tg, iter, ifs, 0⟩] scope pos) 0 (.ref it) (.ref D) ce) (compPost (model X.prog X.w) X.A X.xe use Qf (.ref D) s3.heap.objs.size) s4 := by
    refine compLoop_anyD (fun n s' => ∃ i H', Inv (X.blk s3 H3 scope ce fp) [] (wipe σ (own.map (·.2))) H' s' ∧ tn i s'.heap ∧ (∀ b ∈ fp, H' b = none) ∧ W i n H') ?_ m0 ⟨0, H3, I4, st4, nfp, w0⟩
    rintro n s5 ⟨i, H5, I5, st5, n5, w5⟩
    rcases turn i n H5 w5 with ⟨stop, qq⟩ | ⟨go, Nx, hNx, step⟩
    · have td := T.done (X.blk s3 H3 scope ce fp) rfl rfl rfl hc i [] s5 _ H5 (fun _ _ => False) I5 (stat I5 n5) st5 stop
      refine thnF td fun r s6 ⟨hr, I6⟩ => ?_
      subst hr
      -- back in the def's context
      have I7 : Inv X pins σ H5 s6 := I3.call' (ch := fp) I6.os I6.base I6.hok I6.bare fun b hb => ⟨(f3 b hb).1.2.2.2.1, (f3 b hb).1.2.1, (f3 b hb).1.2.2.2.2.1, (f3 b hb).1.2.2.2.2.2⟩
      have nC : H5 s3.heap.objs.size = none := by
        have z : H5 ce.locals = none := I6.free
        rw [cL] at z
        exact z
      obtain ⟨m, hn, _⟩ := I6.loc
      have hn : s6.heap.Ns ce.locals m := hn
      rw [cL] at hn
      exact hRR D s3.heap.objs.size s6 m H5 I7 qq hn (I3.fpOk (Nat.le_refl _) nC)
    · have ti := T.item (X.blk s3 H3 scope ce fp) rfl rfl rfl hc i [] s5 _ H5 (fun _ _ => False) I5 (stat I5 n5) st5 go
      refine thnF ti fun r s6 ⟨u, hr, h6⟩ => ?_
      subst hr
      refine thnF h6 fun _ s7 ⟨x, H7, I7, r7, y7, st7, n7⟩ => ?_
      have I7' := I7.pinned (stat I7 n7) (T.obj _ _ st7)
      refine thnF (pg.run _ s7 _ H7 x u _ I7' r7 (step x H7 y7)) fun _ s8 ⟨σ8, H8, I8, hw8, q8⟩ => ?_
      refine thnF (pt.run _ s8 σ8 H8 _ I8 q8) fun b s9 ⟨H9, I9, q9⟩ => ?_
      -- the turn's end
      have fin : ∀ {s' : Shared} {H' : Hp}, Inv (X.blk s3 H3 scope ce fp) ([] ++ pinsAt fp s7.heap) σ8 H' s' → Nx H' → ∃ m, m < n ∧ ∃ i H', Inv (X.blk s3 H3 scope ce fp) [] (wipe σ (own.map (·.2))) H' s' ∧ tn i s'.heap ∧ (∀ b ∈ fp, H' b = none) ∧ W i m H' := fun {s' H'} I' nx => by
        obtain ⟨m', hm, w'⟩ := hNx H' nx
        have pin' : ∀ b ∈ fp, ∀ o, s7.heap.get? b = some o → s'.heap.get? b = some o ∧ H' b = none := fun b hb o e =>
          let z := I'.pin (b, o) (List.mem_append_right _ (List.mem_append_right _ (mem_pinsAt hb e)))
          ⟨z.1, z.2.1⟩
        have hl : (wipe σ (own.map (·.2))).length = σ8.length := by rw [← hw8, wipe_length]
        refine ⟨m', hm, i + 1, H', (I'.unpinned (pins := [])).weak hl (fun j v e => ?_), T.keep _ _ _ st7 fun b hb o e => (pin' b hb o e).1, fun b hb => ?_, w'⟩
        · rw [← hw8] at e
          exact (wipe_some e).1
        · obtain ⟨o, e, _⟩ := T.obj _ _ st7 b hb
          exact (pin' b hb o e).2
      cases b with
      | false =>
        simp only [Bool.false_eq_true, if_false] at q9 ⊢
        exact fin I9 q9
      | true =>
        simp only [if_true] at q9 ⊢
        refine thnF (pk.run _ s9 σ8 H9 _ I9 q9) fun z s10 ⟨yk, H10, I10, r10, q10⟩ => ?_
        refine thnF (pe.run _ s10 σ8 H10 _ I10 q10) fun z2 s11 ⟨yv, H11, I11, r11, H12, dp, nx⟩ => ?_
        exact d_dictSetA (X := X.blk s3 H3 scope ce fp) hu I11 dp r10 r11 fun s12 I12 => fin I12 nx
  exact codeAny_compStart_dict loop (T.self X.A 0 _ _ _ st4 loop)
/-- as a value -/
theorem pe_dcA {kx vx tg iter : Expr} {ifs : List Expr} {scope : Scope} {own : List (Str × Nat)} {pos : Pos} {wi : TI} {g : TG} {tt : TT} {tk tv : TE} (hu : X.A.units + 1 < cLine) (hc : X.calm = true) (hN : X.N.Nodup) (hi : PI X tg iter wi) (ok : BlkOk X.N X.env.scope scope own)
    (hg : ∀ (s : Shared) (H : Hp) (C : Addr) (cl : List (Str × Addr)) (fp : List Addr), PG (X.blk s H scope (compEnvC scope cl C X.env) fp) tg g) (ht : ∀ (s : Shared) (H : Hp) (C : Addr) (cl : List (Str × Addr)) (fp : List Addr), PTs (X.blk s H scope (compEnvC scope cl C X.env) fp) ifs tt)
    (hk : ∀ (s : Shared) (H : Hp) (C : Addr) (cl : List (Str × Addr)) (fp : List Addr), PE (X.blk s H scope (compEnvC scope cl C X.env) fp) kx tk)
    (he : ∀ (s : Shared) (H : Hp) (C : Addr) (cl : List (Str × Addr)) (fp : List Addr), PE (X.blk s H scope (compEnvC scope cl C X.env) fp) vx tv) (hs : ∀ x, foldedSetIterable iter X.env x = pure x := by intro _; rfl) :
    PE X (.DictComp kx vx [⟨tg, iter, ifs, 0⟩] scope pos) (tDcA b0 wi g tt tk tv (own.map (·.2))) := by
  refine ⟨fun pins s σ H Q I h => ?_⟩
  rw [arm_eval_DictComp]
  refine dcA_core hu hc hN I hi ok hg ht hk he hs h fun D C s' m H' I' q hn f => ⟨m, hn, fun h'' sb => ?_⟩
  obtain ⟨f0, f1, f2, f3, f4, f5⟩ := f
  exact ⟨.ref D, H', I'.turned (t' := s'.toks) (fun b o hb e => (sb.2 b hb).trans e) f0 f1 f3 f4 f5, rfl, q⟩

/-- name = {..} on one line, the name a local -/
theorem ps_setDcA {i : Nat} {y : Str} {py : Pos} {kx vx tg iter : Expr} {ifs : List Expr} {scope : Scope} {own : List (Str × Nat)} {pos spos : Pos} {wi : TI} {g : TG} {tt : TT} {tk tv : TE} (hu : X.A.units + 1 < cLine) (hc : X.calm = true) (hN : X.N.Nodup) (hy : X.N[i]? = some y) (hyl : X.env.scope.names.lookup y = some .local)
    (hsw : swapsWith (.DictComp kx vx [⟨tg, iter, ifs, 0⟩] scope pos) (some (.Name y py)) spos.line X.env = pure true) (hi : PI X tg iter wi) (ok : BlkOk X.N X.env.scope scope own)
    (hg : ∀ (s : Shared) (H : Hp) (C : Addr) (cl : List (Str × Addr)) (fp : List Addr), PG (X.blk s H scope (compEnvC scope cl C X.env) fp) tg g) (ht : ∀ (s : Shared) (H : Hp) (C : Addr) (cl : List (Str × Addr)) (fp : List Addr), PTs (X.blk s H scope (compEnvC scope cl C X.env) fp) ifs tt)
    (hk : ∀ (s : Shared) (H : Hp) (C : Addr) (cl : List (Str × Addr)) (fp : List Addr), PE (X.blk s H scope (compEnvC scope cl C X.env) fp) kx tk)
    (he : ∀ (s : Shared) (H : Hp) (C : Addr) (cl : List (Str × Addr)) (fp : List Addr), PE (X.blk s H scope (compEnvC scope cl C X.env) fp) vx tv) (hs : ∀ x, foldedSetIterable iter X.env x = pure x := by intro _; rfl) :
    PS X (.Assign [.Name y py] (.DictComp kx vx [⟨tg, iter, ifs, 0⟩] scope pos) spos) (tAsg (tDcA b0 wi g tt tk tv (own.map (·.2))) (gName i)) := by
  refine ⟨fun pins s σ H D I h => ?_⟩
  rw [exec_Assign_Name_used _ _ _ _ hsw]
  refine wpAny_bind (wpAny_standAt (wpAny_bind ?_))
  show wpAny _ X.A (do let _ ← comprehension (.DictComp kx vx [⟨tg, iter, ifs, 0⟩] scope pos) scope X.env (firstIterPos [⟨tg, iter, ifs, 0⟩] pos) newDict false (eval iter X.env) (some (assign (.Name y py) X.env))) _ _ s
  have h : tDcA b0 wi g tt tk tv (own.map (·.2)) σ H (fun x H1 => gName i x σ H1 D.nx) := h
  refine wpAny_bind (thn (dcA_core (Qf := fun _ s' => SP X pins D .next s') hu hc hN I hi ok hg ht hk he hs h fun L C s' m H' I' q hn f => ?_) fun _ s' hq => wpAny_pure (wpAny_pure hq))
  show wpAny _ _ (assign (.Name y py) X.env (.ref L)) _ _ _
  refine wpAny_assign_Name (store_ok2 (v := V.ref L) I' hN hy (.inl hyl) rfl (fun s2 I2 ⟨a, sb, ha⟩ => ?_) (.inr hyl))
  obtain ⟨f0, f1, f2, f3, f4, f5⟩ := f
  have haC : C ≠ a := by
    rcases ha with z | z
    · rw [z]; exact f1
    · exact fun e => f4 y a z e.symm
  refine ⟨m, hn.sameBut sb haC, fun h3 sb3 => ?_⟩
  exact ⟨_, H', I2.turned (t' := s2.toks) (fun b o hb e => (sb3.2 b hb).trans e) f0 f1 f3 f4 f5, q⟩
end
end L2
set_option Elab.async false
set_option linter.all false
set_option maxRecDepth 100000
set_option maxHeartbeats 1000000
namespace PL
open PySem PySem.Spec PyProof.Rows L2
section
variable {K : PySem.W.Frag} {mg : Str → Option Value} {H H' S S' H₀ S₀ : Hp} {As As' As₀ : Fp} {σ : SlotV} {env : Env}
/-- what nobody has is written -/
theorem mk_push {D : Addr} {o : HO} (no : ¬ Own As D) (fz : S D = none) (R : Rel K mg σ env H S As) (hn : H₀ D = none) (st : Stp H₀ S₀ As₀ H S As) :
    Rel K mg σ env (upd H D o) S As ∧ Stp H₀ S₀ As₀ (upd H D o) S As := by
  refine ⟨R.grow (fun b o e => ?_) (Same.refl _) (fun b hb => upd_ne fun e => no (e ▸ hb)) fun b hb => R.free b hb, ⟨st.same, fun b o e n => ?_, st.own, st.new, st.root⟩⟩
  · rw [upd_ne fun q => by rw [q, fz] at e; cases e]; exact R.sub b o e
  · rw [upd_ne fun q => by rw [q, hn] at e; cases e]; exact st.fr b o e n
theorem CellsOk.push {w : V} {c : Cell} {B' : List Addr} (hc : CellOk K mg H S w c B') : ∀ {cs : List Cell} {vs : List V} {B : List Addr}, CellsOk K mg H S vs cs B → (∀ b ∈ B, b ∉ B') → CellsOk K mg H S (vs ++ [w]) (cs ++ [c]) (B ++ B')
  | [], vs, B, h, hd => by
    unfold CellsOk at h
    obtain ⟨rfl, rfl⟩ := h
    show CellsOk K mg H S [w] [c] B'
    unfold CellsOk
    exact ⟨w, [], B', [], rfl, (List.append_nil _).symm, hc, by unfold CellsOk; exact ⟨rfl, rfl⟩, fun b _ hb => by cases hb⟩
  | d :: cs, vs, B, h, hd => by
    unfold CellsOk at h
    obtain ⟨v, r, B1, B2, rfl, rfl, h1, h2, h3⟩ := h
    show CellsOk K mg H S (v :: (r ++ [w])) (d :: (cs ++ [c])) (B1 ++ B2 ++ B')
    unfold CellsOk
    refine ⟨v, r ++ [w], B1, B2 ++ B', rfl, List.append_assoc _ _ _, h1, CellsOk.push hc h2 fun b hb => hd b (List.mem_append_right _ hb), fun b hb z => ?_⟩
    rcases List.mem_append.mp z with z | z
    · exact h3 b hb z
    · exact hd b (List.mem_append_left _ hb) z
theorem Rpd.put {v : V} {p : PV} (hp : Rp K mg S v p) (k : List L2.Key) {kvs : List (List L2.Key × PV)} {ws : List (List L2.Key × V)} (h : Rpd K mg S ws kvs) : Rpd K mg S (putK ws k v) (dPut kvs k p) := by
  have e1 : ∀ {kvs : List (List L2.Key × PV)} {ws : List (List L2.Key × V)}, Rpd K mg S ws kvs → Rpd K mg S (ws.map fun kv => if kv.1 = k then (kv.1, v) else kv) (kvs.map fun kv => if kv.1 = k then (kv.1, p) else kv) := by
    intro kvs
    induction kvs with
    | nil => intro ws h; unfold Rpd at h; subst h; unfold Rpd; rfl
    | cons q r ih =>
      intro ws h
      obtain ⟨k', p'⟩ := q
      unfold Rpd at h
      obtain ⟨v', r', rfl, h1, h2⟩ := h
      rw [List.map_cons, List.map_cons]
      by_cases e : k' = k
      · rw [if_pos e, if_pos e]
        unfold Rpd
        exact ⟨v, _, rfl, hp, ih h2⟩
      · rw [if_neg e, if_neg e]
        unfold Rpd
        exact ⟨v', _, rfl, h1, ih h2⟩
  have e2 : ∀ {kvs : List (List L2.Key × PV)} {ws : List (List L2.Key × V)}, Rpd K mg S ws kvs → Rpd K mg S (ws ++ [(k, v)]) (kvs ++ [(k, p)]) := by
    intro kvs
    induction kvs with
    | nil => intro ws h; unfold Rpd at h; subst h; show Rpd K mg S [(k, v)] [(k, p)]; unfold Rpd; exact ⟨v, [], rfl, hp, by unfold Rpd; rfl⟩
    | cons q r ih =>
      intro ws h
      obtain ⟨k', p'⟩ := q
      unfold Rpd at h
      obtain ⟨v', r', rfl, h1, h2⟩ := h
      show Rpd K mg S ((k', v') :: (r' ++ [(k, v)])) ((k', p') :: (r ++ [(k, p)]))
      unfold Rpd
      exact ⟨v', _, rfl, h1, ih h2⟩
  have h3 := (h.find k).1
  rw [← valV_any] at h3
  unfold putK dPut
  rw [h3]
  split
  · exact e1 h
  · exact e2 h
theorem putK_one (k : L2.Key) (v : V) (ks : List (L2.Key × V)) : putK (ks.map fun p => ([p.1], p.2)) [k] v = (putK ks k v).map fun p => ([p.1], p.2) := by
  unfold putK
  have e : ((ks.map fun p => ([p.1], p.2)).any fun kv => decide (kv.1 = [k])) = ks.any fun kv => decide (kv.1 = k) := by
    rw [List.any_map]
    congr 1
    funext x
    simp
  rw [e]
  split
  · rw [List.map_map, List.map_map]
    apply List.map_congr_left
    intro x hx
    show (if [x.1] = [k] then ([x.1], v) else ([x.1], x.2)) = _
    by_cases h : x.1 = k
    · rw [if_pos (by rw [h])]
      show _ = (fun p : L2.Key × V => ([p.1], p.2)) (if x.1 = k then (x.1, v) else x)
      rw [if_pos h]
    · rw [if_neg (by intro z; exact h (List.cons.inj z).1)]
      show _ = (fun p : L2.Key × V => ([p.1], p.2)) (if x.1 = k then (x.1, v) else x)
      rw [if_neg h]
  · rw [List.map_append]
    rfl
/-- d[k] = v -/
theorem dput_ok {b : Bool} {a : Addr} {ws : List (List L2.Key × V)} {kvs : List (List L2.Key × PV)} {p q : PV} {y v : V} {k : List L2.Key} (h : DH b (H a) ws) (r : Rpd K mg S ws kvs) (hy : Rp K mg H y q) (e : keyP b q = some k) (hv : Rp K mg S v p) (hl : kvs.length < sizeLine) :
    ∃ o ws', DPut H a y v (upd H a o) ∧ DH b (some o) ws' ∧ Rpd K mg S ws' (dPut kvs k p) := by
  have hl' : ws.length < sizeLine := by
    have : ∀ {kvs : List (List L2.Key × PV)} {ws : List (List L2.Key × V)}, Rpd K mg S ws kvs → ws.length = kvs.length := by
      intro kvs
      induction kvs with
      | nil => intro ws h; unfold Rpd at h; subst h; rfl
      | cons q r ih =>
        intro ws h
        obtain ⟨k', p'⟩ := q
        unfold Rpd at h
        obtain ⟨v', r', rfl, h1, h2⟩ := h
        rw [List.length_cons, List.length_cons, ih h2]
    rw [this r]; exact hl
  cases b with
  | true =>
    obtain ⟨c, rfl, hc⟩ := keyT_ok hy e
    exact ⟨_, _, DPut.t h hc hl', rfl, r.put hv k⟩
  | false =>
    obtain ⟨ks, h1, rfl⟩ := h
    unfold keyP at e
    simp only [Option.map_eq_some_iff] at e
    obtain ⟨k0, e1, rfl⟩ := e
    cases keyA_ok hy e1
    rw [List.length_map] at hl'
    exact ⟨_, _, DPut.k h1 hl', ⟨_, rfl, (putK_one k0 v ks)⟩, r.put hv [k0]⟩
theorem ownR_cases {r : RV} {e : Env} {z : Cell × Env} (h : ownR r e = some z) : (∃ c, r = .new c ∧ z = (c, e)) ∨ ∃ p e', take r e = some (p, e') ∧ z = (.fz p, e') := by
  cases r with
  | new c => cases h; exact .inl ⟨c, rfl, rfl⟩
  | val p =>
    unfold ownR at h
    simp only [Option.map_eq_some_iff] at h
    obtain ⟨a, h1, h2⟩ := h
    exact .inr ⟨a.1, a.2, h1, h2.symm⟩
  | loc p =>
    unfold ownR at h
    simp only [Option.map_eq_some_iff] at h
    obtain ⟨a, h1, h2⟩ := h
    exact .inr ⟨a.1, a.2, h1, h2.symm⟩
  | brw j p c =>
    unfold ownR at h
    simp only [Option.map_eq_some_iff] at h
    obtain ⟨a, h1, h2⟩ := h
    exact .inr ⟨a.1, a.2, h1, h2.symm⟩
/-- .. as an owned cell -/
theorem ownR_ok (R : Rel K mg σ env H S As) {v : V} {rv : RV} {B : List Addr} {c : Cell} {env' : Env} (h : RvOk K mg σ H S As v rv B) (st : Stp H₀ S₀ As₀ H S As) (hB : ∀ b ∈ B, H₀ b = none ∨ Own As₀ b) (e : ownR rv env = some (c, env')) :
    ∃ S' As' B', Rel K mg σ env' H S' As' ∧ Stp H₀ S₀ As₀ H S' As' ∧ RvOk K mg σ H S' As' v (.new c) B' ∧ ∀ b ∈ B', H₀ b = none ∨ Own As₀ b := by
  rcases ownR_cases e with ⟨c', rfl, e2⟩ | ⟨p, e', e1, e2⟩
  · cases e2
    exact ⟨S, As, B, R, st, h, hB⟩
  · cases e2
    obtain ⟨S8, As8, R8, st8, rp8, _⟩ := take_ok R h st hB e1
    exact ⟨S8, As8, [], R8, st8, ⟨by unfold CellOk; exact ⟨rp8, rfl⟩, fun b hb => by cases hb⟩, fun b hb => by cases hb⟩
end
section
variable {X : Cx} {W : WX} {elt tg iter kx vx : Expr} {ifs : List Expr} {scope : Scope} {own : List (Str × Nat)} {is : List Nat} {pos : Pos} {t : Tg} {b : Bool}
  {fi : Env → Res ((List PV × RV) × Env)} {ft : PV → Env → Res Env} {fc : Env → Res (Bool × Env)} {fe fk fv : Env → Res (RV × Env)}
abbrev fLn (fi : Env → Res ((List PV × RV) × Env)) (ft : PV → Env → Res Env) (fc : Env → Res (Bool × Env)) (fe : Env → Res (RV × Env)) (is : List Nat) : Env → Res (RV × Env) := fun env => (fi env).bind fun r => match plainAt r.2 is with
    | false => .stuck
    | true => (lnGo is ft fc (fun e1 => (fe e1).bind fun q => optR (ownR q.1 q.2)) (fun e1 => wipeE e1 is) r.1.1 [] (wipeE r.2 is)).noexc.bind fun q =>
      .ok (.new (.ls q.1), unb r.1.2 (restore r.2 q.2 is))
theorem imp_ln {K : PySem.W.Frag} {mg : Str → Option Value} {σ : SlotV} {H : Hp} {Q : VK} (hsub : ∀ j ∈ tgs t, j ∈ is)
    (h : liftE K mg W (fLn fi ft fc fe is) σ H Q) :
    tLc (liftI K mg W fi) (liftG K mg W0 (tgs t) ft) (liftT K mg W0 fc) (liftE K mg W0 fe) is σ H Q := by
  obtain ⟨env, S, As, R, h⟩ := h
  refine liftI.mono (bindI Stp.refl R h) ?_
  rintro J H1 ⟨items, keep, env1, S1, As1, kv, kB, st1, R1, okk, frk, wk, h1⟩ D hD
  dsimp only at h1
  cases hp : plainAt env1 is with
  | false => rw [hp] at h1; exact False.elim h1
  | true =>
    rw [hp] at h1
    dsimp only at h1
    cases hgo : (lnGo is ft fc (fun e1 => (fe e1).bind fun q => optR (ownR q.1 q.2)) (fun e1 => wipeE e1 is) items [] (wipeE env1 is)).noexc with
    | exc C fs e => cases hq : lnGo is ft fc (fun e1 => (fe e1).bind fun q => optR (ownR q.1 q.2)) (fun e1 => wipeE e1 is) items [] (wipeE env1 is) <;> rw [hq] at hgo <;> cases hgo
    | stuck => rw [hgo] at h1; exact False.elim h1
    | ok r =>
      obtain ⟨accF, envF⟩ := r
      rw [hgo] at h1
      have hgo := Res.noexc_ok hgo
      have h1 : KE K mg σ H S As Q (.new (.ls accF)) (unb keep (restore env1 envF is)) := h1
      obtain ⟨As2, R2, st2⟩ := R1.wipes (is := is)
      obtain ⟨R3, st3⟩ := R2.layN (o := .lst []) hD
      have noD : ¬ Own As2 D := fun z => R2.there z hD
      let Iv : Nat → Hp → Prop := fun i Hc => ∃ env' S' As' acc vs Bs, Stp H1 S1 As1 Hc S' As' ∧ Rel K mg (wipe σ is) env' Hc S' As' ∧ Hc D = some (.lst vs) ∧ CellsOk K mg Hc S' vs acc Bs ∧ D ∉ Bs ∧ RvOk K mg (wipe σ is) Hc S' As' (.ref D) (.new (.ls acc)) (D :: Bs) ∧
        (∀ b ∈ Bs, H1 b = none ∨ Own As1 b) ∧ acc.length ≤ i ∧
        lnGo is ft fc (fun e1 => (fe e1).bind fun q => optR (ownR q.1 q.2)) (fun e1 => wipeE e1 is) (items.drop i) acc env' = .ok (accF, envF)
      have nilOk : CellsOk K mg (upd H1 D (.lst [])) S1 [] [] [] := by unfold CellsOk; exact ⟨rfl, rfl⟩
      have RvS : ∀ {Hx : Hp} {Sx : Hp} {Ax : Fp} {σx : SlotV} {vs : List V} {acc : List Cell} {Bs : List Addr}, Hx D = some (.lst vs) → CellsOk K mg Hx Sx vs acc Bs → D ∉ Bs → (∀ b ∈ D :: Bs, ¬ Own Ax b ∧ Sx b = none) → RvOk K mg σx Hx Sx Ax (.ref D) (.new (.ls acc)) (D :: Bs) :=
        fun h1 h2 h3 h4 => ⟨by unfold CellOk; exact ⟨D, _, _, rfl, h1, h2, h3, rfl⟩, h4⟩
      have RvI : ∀ {Hx : Hp} {Sx : Hp} {Ax : Fp} {σx : SlotV} {acc : List Cell} {Bs : List Addr}, RvOk K mg σx Hx Sx Ax (.ref D) (.new (.ls acc)) (D :: Bs) → ∃ vs, Hx D = some (.lst vs) ∧ CellsOk K mg Hx Sx vs acc Bs ∧ D ∉ Bs := fun h => by
        obtain ⟨h1, h2⟩ := h
        unfold CellOk at h1
        obtain ⟨a, vs, Bs', e1, h3, h4, h5, e2⟩ := h1
        cases e1
        cases e2
        exact ⟨vs, h3, h4, h5⟩
      refine ⟨fun i m Hc => m = items.length - i ∧ i ≤ items.length ∧ Iv i Hc, ⟨_, rfl, Nat.zero_le _, wipeE env1 is, S1, As2, [], [], [], st2.trans st3, R3, upd_same, nilOk, (by intro z; cases z), RvS upd_same nilOk (by intro z; cases z) (fun b hb => by
        obtain rfl : b = D := by simpa using hb
        exact ⟨noD, R1.sub.free hD⟩), (fun b hb => by cases hb), Nat.le_refl _, hgo⟩, ?_⟩
      rintro i m Hc ⟨rfl, hile, env', S', As', acc, vs, Bs, stc, Rc, _, _, _, mk, frB, hacc, hrun⟩
      have sm : Same S1 Hc := stc.same.trans Rc.sub
      by_cases hlt : i < items.length
      · obtain ⟨hgoJ, hy⟩ := wk.item Hc sm (keep_pin okk stc) i items[i] (List.getElem?_eq_getElem hlt)
        refine .inr ⟨hgoJ, Iv (i + 1), fun H' p' => ⟨items.length - (i + 1), by omega, rfl, hlt, p'⟩, fun x H3 y => ?_⟩
        obtain ⟨S3, R4, st4, rx⟩ := ((hy x H3 y).mono stc.same).lay Rc
        rw [List.drop_eq_getElem_cons hlt] at hrun
        unfold lnGo at hrun
        obtain ⟨e1, k1, hrun⟩ := Res.bind_ok hrun
        obtain ⟨⟨b, e2⟩, k2, hrun⟩ := Res.bind_ok hrun
        refine ⟨env', S3, As', items[i], R4, rx, PostG.ok k1 ?_⟩
        intro σ5 H5 S5 As5 kp5 st5 R5
        refine ⟨wipe_kept kp5 hsub, e1, S5, As5, R5, Post.ok' k2 ?_⟩
        intro H6 S6 As6 st6 R6
        have st16 := ((stc.trans st4).trans st5).trans st6
        have mk6 : RvOk K mg (wipe σ is) H6 S6 As6 (.ref D) (.new (.ls acc)) (D :: Bs) := ((mk.stp st4).stp st5).stp st6
        cases b with
        | false =>
          obtain ⟨As7, R7, st7⟩ := R6.wipes (is := is)
          rw [wipe_kept kp5 hsub] at R7
          have mk7 := mk6.stp st7
          obtain ⟨vs7, a1, a2, a3⟩ := RvI mk7
          exact iteF ⟨wipeE e2 is, S6, As7, acc, vs7, Bs, st16.trans st7, R7, a1, a2, a3, mk7, frB, Nat.le_succ_of_le hacc, hrun⟩
        | true =>
          refine iteT ?_
          obtain ⟨⟨q, e4⟩, k3, hrun⟩ := Res.bind_ok hrun
          obtain ⟨⟨rv, e3⟩, k4, k5⟩ := Res.bind_ok k3
          have k5 : ownR rv e3 = some (q, e4) := by
            dsimp only at k5
            cases z : ownR rv e3 with
            | none => rw [z] at k5; cases k5
            | some r => rw [z] at k5; cases k5; rfl
          refine ⟨e2, S6, As6, R6, Post.ok' k4 ?_⟩
          intro v H7 S7 As7 B st7 R7 ok7 fr7
          obtain ⟨S8, As8, B8, R8, st8, ok8, fr8⟩ := ownR_ok R7 ok7 st7 fr7 k5
          have mk8 := mk6.stp st8
          obtain ⟨As9, R9, st9⟩ := R8.wipes (is := is)
          rw [wipe_kept kp5 hsub] at R9
          have mk9 := mk8.stp st9
          have ok9 := ok8.stp st9
          obtain ⟨vs9, a1, a2, a3⟩ := RvI mk9
          have n9 := mk9.2 D List.mem_cons_self
          obtain ⟨R10, st10⟩ := mk_push (o := .lst (vs9 ++ [v])) n9.1 n9.2 R9 hD ((st16.trans st8).trans st9)
          -- the new item's objects are none of the others
          have dj : ∀ b ∈ B8, b ∉ D :: Bs := fun b hb z => by
            have t6 := mk6.there b z
            rcases fr8 b hb with y | y
            · exact t6.1 y
            · exact t6.2.1 y
          have c10 : CellsOk K mg (upd H7 D (.lst (vs9 ++ [v]))) S8 (vs9 ++ [v]) (acc ++ [q]) (Bs ++ B8) := by
            refine CellsOk.push (CellOk.fr (Same.refl _) _ _ _ ok9.1 fun b hb => upd_ne fun z => dj b hb (z ▸ List.mem_cons_self)) (CellsOk.fr (Same.refl _) _ _ _ a2 fun b hb => upd_ne fun z => a3 (z ▸ hb)) fun b hb z => dj b z (List.mem_cons_of_mem _ hb)
          have d10 : D ∉ Bs ++ B8 := fun z => (List.mem_append.mp z).elim a3 fun z => dj D z List.mem_cons_self
          have all10 : ∀ b ∈ D :: (Bs ++ B8), ¬ Own As9 b ∧ S8 b = none := fun b hb => by
            rcases List.mem_cons.mp hb with rfl | hb
            · exact n9
            · rcases List.mem_append.mp hb with z | z
              · exact mk9.2 b (List.mem_cons_of_mem _ z)
              · exact ok9.2 b z
          refine ⟨vs9, a1, ?_, wipeE e4 is, S8, As9, acc ++ [q], vs9 ++ [v], Bs ++ B8, st10, R10, upd_same, c10, d10, RvS upd_same c10 d10 all10, fun b hb => ?_, by simp; omega, hrun⟩
          · have := wk.len
            rw [a2.length]
            omega
          · rcases List.mem_append.mp hb with z | z
            · exact frB b z
            · exact st16.fresh (fr8 b z)
      · have e : i = items.length := by omega
        subst e
        rw [List.drop_length] at hrun
        have hrun : (Res.ok (acc, env') : Res (List Cell × Env)) = .ok (accF, envF) := hrun
        cases hrun
        obtain ⟨As9, R9, st9⟩ := Rel.restored R1 hp Rc stc.same
        have mk9 := mk.stp st9
        obtain ⟨As10, R10, st10, o10⟩ := unb_ok R9 (okk.stp (stc.trans st9)) (st1.trans (stc.trans st9)) frk
        have frA : ∀ b ∈ D :: Bs, H1 b = none ∨ Own As1 b := fun b hb => (List.mem_cons.mp hb).elim (fun z => z ▸ .inl hD) (frB b)
        refine .inl ⟨wk.stop Hc sm (keep_pin okk stc) _ (Nat.le_refl _), h1 _ _ _ _ (D :: Bs) st10 R10 ⟨mk9.1, fun b hb => ?_⟩ fun b hb => ?_⟩
        · refine ⟨fun z => (o10 b z).elim (mk9.2 b hb).1 fun z => ?_, (mk9.2 b hb).2⟩
          rcases frA b hb with y | y
          · exact (okk.there b z).1 y
          · exact (okk.there b z).2.1 y
        · exact st1.fresh (frA b hb)
theorem le_ln (hown : own.map (·.2) = is) (hc : X.calm = true) (hN : X.N.Nodup) (hi : LI X W tg iter fi) (ok : BlkOk X.N X.env.scope scope own) (hsub : ∀ j ∈ tgs t, j ∈ is)
    (hg : ∀ (s : Shared) (H : Hp) (C : Addr) (cl : List (Str × Addr)) (fp : List Addr), LG (X.blk s H scope (compEnvC scope cl C X.env) fp) W0 tg t ft)
    (ht : ∀ (s : Shared) (H : Hp) (C : Addr) (cl : List (Str × Addr)) (fp : List Addr), PTs (X.blk s H scope (compEnvC scope cl C X.env) fp) ifs (liftT X.K X.mg W0 fc))
    (he : ∀ (s : Shared) (H : Hp) (C : Addr) (cl : List (Str × Addr)) (fp : List Addr), LE (X.blk s H scope (compEnvC scope cl C X.env) fp) W0 elt fe) (hs : ∀ x, foldedSetIterable iter X.env x = pure x) :
    LE X W (.ListComp elt [⟨tg, iter, ifs, 0⟩] scope pos) (fLn fi ft fc fe is) := by
  refine PE.imp (pe_lc (g := liftG X.K X.mg W0 (tgs t) ft) (tt := liftT X.K X.mg W0 fc) (te := liftE X.K X.mg W0 fe) hc hN hi ok hg ht he hs) fun σ H Q h => ?_
  rw [hown]
  exact imp_ln hsub h
/-- a dict's comprehension -/
abbrev fEnt (b : Bool) (fk fv : Env → Res (RV × Env)) : Env → Res ((List L2.Key × PV) × Env) := fun e1 => (fk e1).bind fun q => (optR (take q.1 q.2)).bind fun q => (optR (keyP b q.1)).bind fun y => (fv q.2).bind fun w => (optR (take w.1 w.2)).bind fun w => .ok ((y, w.1), w.2)
abbrev fDc (b : Bool) (fi : Env → Res ((List PV × RV) × Env)) (ft : PV → Env → Res Env) (fc : Env → Res (Bool × Env)) (fk fv : Env → Res (RV × Env)) (is : List Nat) : Env → Res (RV × Env) := fun env => (fi env).bind fun r => match plainAt r.2 is with
    | false => .stuck
    | true => (dcGo is ft fc (fEnt b fk fv) (fun e1 => wipeE e1 is) r.1.1 [] (wipeE r.2 is)).noexc.bind fun q =>
      .ok (.new (.dct b q.1), unb r.1.2 (restore r.2 q.2 is))
theorem length_dPut (kvs : List (List L2.Key × PV)) (k : List L2.Key) (v : PV) : (dPut kvs k v).length ≤ kvs.length + 1 := by
  unfold dPut
  split
  · rw [List.length_map]; omega
  · rw [List.length_append, List.length_cons, List.length_nil]; omega
theorem optR_ok {α : Type} {x : Option α} {a : α} (h : optR x = .ok a) : x = some a := by
  cases x with
  | none => cases h
  | some y => cases h; rfl
theorem imp_dc {K : PySem.W.Frag} {mg : Str → Option Value} {σ : SlotV} {H : Hp} {Q : VK} (hsub : ∀ j ∈ tgs t, j ∈ is)
    (h : liftE K mg W (fDc b fi ft fc fk fv is) σ H Q) :
    tDcA b (liftI K mg W fi) (liftG K mg W0 (tgs t) ft) (liftT K mg W0 fc) (liftE K mg W0 fk) (liftE K mg W0 fv) is σ H Q := by
  obtain ⟨env, S, As, R, h⟩ := h
  refine liftI.mono (bindI Stp.refl R h) ?_
  rintro J H1 ⟨items, keep, env1, S1, As1, kv, kB, st1, R1, okk, frk, wk, h1⟩ D hD
  dsimp only at h1
  cases hp : plainAt env1 is with
  | false => rw [hp] at h1; exact False.elim h1
  | true =>
    rw [hp] at h1
    dsimp only at h1
    cases hgo : (dcGo is ft fc (fEnt b fk fv) (fun e1 => wipeE e1 is) items [] (wipeE env1 is)).noexc with
    | exc C fs e => cases hq : dcGo is ft fc (fEnt b fk fv) (fun e1 => wipeE e1 is) items [] (wipeE env1 is) <;> rw [hq] at hgo <;> cases hgo
    | stuck => rw [hgo] at h1; exact False.elim h1
    | ok r =>
      obtain ⟨accF, envF⟩ := r
      rw [hgo] at h1
      have hgo := Res.noexc_ok hgo
      have h1 : KE K mg σ H S As Q (.new (.dct b accF)) (unb keep (restore env1 envF is)) := h1
      obtain ⟨As2, R2, st2⟩ := R1.wipes (is := is)
      obtain ⟨R3, st3⟩ := R2.layN (o := oE b) hD
      have noD : ¬ Own As2 D := fun z => R2.there z hD
      let Iv : Nat → Hp → Prop := fun i Hc => ∃ env' S' As' acc, Stp H1 S1 As1 Hc S' As' ∧ Rel K mg (wipe σ is) env' Hc S' As' ∧ RvOk K mg (wipe σ is) Hc S' As' (.ref D) (.new (.dct b acc)) [D] ∧ acc.length ≤ i ∧
        dcGo is ft fc (fEnt b fk fv) (fun e1 => wipeE e1 is) (items.drop i) acc env' = .ok (accF, envF)
      have RvI : ∀ {Hx : Hp} {Sx : Hp} {Ax : Fp} {σx : SlotV} {acc : List (List L2.Key × PV)}, RvOk K mg σx Hx Sx Ax (.ref D) (.new (.dct b acc)) [D] → ∃ ws, DH b (Hx D) ws ∧ Rpd K mg Sx ws acc := fun h => by
        obtain ⟨h1, h2⟩ := h
        unfold CellOk at h1
        obtain ⟨a, ws, e1, h3, h4, e2⟩ := h1
        cases e1
        exact ⟨ws, h3, h4⟩
      have d0 : DH b (upd H1 D (oE b) D) [] := by
        rw [upd_same]
        cases b with
        | true => rfl
        | false => exact ⟨[], rfl, rfl⟩
      refine ⟨fun i m Hc => m = items.length - i ∧ i ≤ items.length ∧ Iv i Hc, ⟨_, rfl, Nat.zero_le _, wipeE env1 is, S1, As2, [], st2.trans st3, R3, ⟨by unfold CellOk; exact ⟨D, [], rfl, d0, (by unfold Rpd; rfl), rfl⟩, fun b hb => by
        obtain rfl : b = D := by simpa using hb
        exact ⟨noD, R1.sub.free hD⟩⟩, Nat.le_refl _, hgo⟩, ?_⟩
      rintro i m Hc ⟨rfl, hile, env', S', As', acc, stc, Rc, mk, hacc, hrun⟩
      have sm : Same S1 Hc := stc.same.trans Rc.sub
      by_cases hlt : i < items.length
      · obtain ⟨hgoJ, hy⟩ := wk.item Hc sm (keep_pin okk stc) i items[i] (List.getElem?_eq_getElem hlt)
        refine .inr ⟨hgoJ, Iv (i + 1), fun H' p' => ⟨items.length - (i + 1), by omega, rfl, hlt, p'⟩, fun x H3 y => ?_⟩
        obtain ⟨S3, R4, st4, rx⟩ := ((hy x H3 y).mono stc.same).lay Rc
        rw [List.drop_eq_getElem_cons hlt] at hrun
        unfold dcGo at hrun
        obtain ⟨e1, k1, hrun⟩ := Res.bind_ok hrun
        obtain ⟨⟨c, e2⟩, k2, hrun⟩ := Res.bind_ok hrun
        refine ⟨env', S3, As', items[i], R4, rx, PostG.ok k1 ?_⟩
        intro σ5 H5 S5 As5 kp5 st5 R5
        refine ⟨wipe_kept kp5 hsub, e1, S5, As5, R5, Post.ok' k2 ?_⟩
        intro H6 S6 As6 st6 R6
        have st16 := ((stc.trans st4).trans st5).trans st6
        have mk6 : RvOk K mg (wipe σ is) H6 S6 As6 (.ref D) (.new (.dct b acc)) [D] := ((mk.stp st4).stp st5).stp st6
        cases c with
        | false =>
          obtain ⟨As7, R7, st7⟩ := R6.wipes (is := is)
          rw [wipe_kept kp5 hsub] at R7
          exact iteF ⟨wipeE e2 is, S6, As7, acc, st16.trans st7, R7, mk6.stp st7, Nat.le_succ_of_le hacc, hrun⟩
        | true =>
          refine iteT ?_
          obtain ⟨⟨⟨ky, q⟩, e4⟩, k3, hrun⟩ := Res.bind_ok hrun
          obtain ⟨⟨rv, e3⟩, k4, k5⟩ := Res.bind_ok k3
          obtain ⟨⟨kp, e5⟩, h5, k6⟩ := Res.bind_ok k5
          obtain ⟨ky', h6, k7⟩ := Res.bind_ok k6
          obtain ⟨⟨rw', e6⟩, h7, k8⟩ := Res.bind_ok k7
          obtain ⟨⟨wp, e7⟩, h8, k9⟩ := Res.bind_ok k8
          have h5 := optR_ok h5
          have h6 := optR_ok h6
          have h8 := optR_ok h8
          cases k9
          refine ⟨e2, S6, As6, R6, Post.ok' k4 ?_⟩
          intro y H7 S7 As7 B st7 R7 ok7 fr7
          obtain ⟨S8, As8, R8, st8, rp8, sm8, _⟩ := take_ok R7 ok7 st7 fr7 h5
          have mk8 := mk6.stp st8
          refine ⟨e5, S8, As8, R8, Post.ok' h7 ?_⟩
          intro z H9 S9 As9 B9 st9 R9 ok9 fr9
          obtain ⟨S10, As10, R10, st10, rp10, sm10, _⟩ := take_ok R9 ok9 st9 fr9 h8
          have mk10 := mk8.stp st10
          obtain ⟨As11, R11, st11⟩ := R10.wipes (is := is)
          rw [wipe_kept kp5 hsub] at R11
          have mk11 := mk10.stp st11
          obtain ⟨ws, d1, d2⟩ := RvI mk11
          have n11 := mk11.2 D List.mem_cons_self
          have hz : acc.length < sizeLine := by have := wk.len; omega
          obtain ⟨o, ws', dp, dh, rr⟩ := dput_ok d1 d2 (Rp.mono (st10.same.trans R10.sub) _ _ rp8) h6 rp10 hz
          obtain ⟨R12, st12⟩ := mk_push (o := o) n11.1 n11.2 R11 hD (((st16.trans st8).trans st10).trans st11)
          refine ⟨_, dp, wipeE e7 is, S10, As11, dPut acc ky wp, st12, R12, ⟨by unfold CellOk; exact ⟨D, ws', rfl, by rw [upd_same]; exact dh, rr, rfl⟩, mk11.2⟩, ?_, hrun⟩
          have := length_dPut acc ky wp
          omega
      · have e : i = items.length := by omega
        subst e
        rw [List.drop_length] at hrun
        have hrun : (Res.ok (acc, env') : Res (List (List L2.Key × PV) × Env)) = .ok (accF, envF) := hrun
        cases hrun
        obtain ⟨As9, R9, st9⟩ := Rel.restored R1 hp Rc stc.same
        have mk9 := mk.stp st9
        obtain ⟨As10, R10, st10, o10⟩ := unb_ok R9 (okk.stp (stc.trans st9)) (st1.trans (stc.trans st9)) frk
        refine .inl ⟨wk.stop Hc sm (keep_pin okk stc) _ (Nat.le_refl _), h1 _ _ _ _ [D] st10 R10 ⟨mk9.1, fun b hb => ?_⟩ fun b hb => ?_⟩
        · refine ⟨fun z => (o10 b z).elim (mk9.2 b hb).1 fun z => ?_, (mk9.2 b hb).2⟩
          obtain rfl : b = D := by simpa using hb
          exact (okk.there b z).1 hD
        · obtain rfl : b = D := by simpa using hb
          exact st1.fresh (.inl hD)
theorem le_dc (hu : X.A.units + 1 < cLine) (hown : own.map (·.2) = is) (hc : X.calm = true) (hN : X.N.Nodup) (hi : LI X W tg iter fi) (ok : BlkOk X.N X.env.scope scope own) (hsub : ∀ j ∈ tgs t, j ∈ is)
    (hg : ∀ (s : Shared) (H : Hp) (C : Addr) (cl : List (Str × Addr)) (fp : List Addr), LG (X.blk s H scope (compEnvC scope cl C X.env) fp) W0 tg t ft)
    (ht : ∀ (s : Shared) (H : Hp) (C : Addr) (cl : List (Str × Addr)) (fp : List Addr), PTs (X.blk s H scope (compEnvC scope cl C X.env) fp) ifs (liftT X.K X.mg W0 fc))
    (hk : ∀ (s : Shared) (H : Hp) (C : Addr) (cl : List (Str × Addr)) (fp : List Addr), LE (X.blk s H scope (compEnvC scope cl C X.env) fp) W0 kx fk)
    (hv : ∀ (s : Shared) (H : Hp) (C : Addr) (cl : List (Str × Addr)) (fp : List Addr), LE (X.blk s H scope (compEnvC scope cl C X.env) fp) W0 vx fv) (hs : ∀ x, foldedSetIterable iter X.env x = pure x) :
    LE X W (.DictComp kx vx [⟨tg, iter, ifs, 0⟩] scope pos) (fDc b fi ft fc fk fv is) := by
  refine PE.imp (pe_dcA (b0 := b) (g := liftG X.K X.mg W0 (tgs t) ft) (tt := liftT X.K X.mg W0 fc) (tk := liftE X.K X.mg W0 fk) (tv := liftE X.K X.mg W0 fv) hu hc hN hi ok hg ht hk hv hs) fun σ H Q h => ?_
  rw [hown]
  exact imp_dc hsub h
/-- {} -/
theorem le_dnew (b : Bool) : LE X W (.Dict [] [] pos) (fun env => .ok (.new (.dct b []), env)) := by
  cases b with
  | true =>
    refine PE.imp pe_dnewT fun σ H Q h => ?_
    obtain ⟨env, S, As, R, h⟩ := h
    intro p hp
    obtain ⟨R3, st3⟩ := R.layN (o := .dT []) hp
    exact h _ _ _ _ [p] st3 R3 ⟨by unfold CellOk; exact ⟨p, [], rfl, upd_same, (by unfold Rpd; rfl), rfl⟩, fun b hb => by
      obtain rfl : b = p := by simpa using hb
      exact ⟨fun z => R.there z hp, R.sub.free hp⟩⟩ fun b hb => by
      obtain rfl : b = p := by simpa using hb
      exact .inl hp
  | false =>
    refine PE.imp pe_dnewK fun σ H Q h => ?_
    obtain ⟨env, S, As, R, h⟩ := h
    intro p hp
    obtain ⟨R3, st3⟩ := R.layN (o := .dK []) hp
    exact h _ _ _ _ [p] st3 R3 ⟨by unfold CellOk; exact ⟨p, [], rfl, ⟨[], upd_same, rfl⟩, (by unfold Rpd; rfl), rfl⟩, fun b hb => by
      obtain rfl : b = p := by simpa using hb
      exact ⟨fun z => R.there z hp, R.sub.free hp⟩⟩ fun b hb => by
      obtain rfl : b = p := by simpa using hb
      exact .inl hp
theorem ls_setLn {p1 pos' : Pos} {i : Nat} {y : Str}
    (hown : own.map (·.2) = is) (hc : X.calm = true) (hN : X.N.Nodup) (hy : X.N[i]? = some y) (hyl : X.env.scope.names.lookup y = some .local) (hsw : swapsWith (.ListComp elt [⟨tg, iter, ifs, 0⟩] scope p1) (some (.Name y pos')) pos.line X.env = pure true)
    (hi : LI X W tg iter fi) (ok : BlkOk X.N X.env.scope scope own) (hsub : ∀ j ∈ tgs t, j ∈ is)
    (hg : ∀ (s : Shared) (H : Hp) (C : Addr) (cl : List (Str × Addr)) (fp : List Addr), LG (X.blk s H scope (compEnvC scope cl C X.env) fp) W0 tg t ft)
    (ht : ∀ (s : Shared) (H : Hp) (C : Addr) (cl : List (Str × Addr)) (fp : List Addr), PTs (X.blk s H scope (compEnvC scope cl C X.env) fp) ifs (liftT X.K X.mg W0 fc))
    (he : ∀ (s : Shared) (H : Hp) (C : Addr) (cl : List (Str × Addr)) (fp : List Addr), LE (X.blk s H scope (compEnvC scope cl C X.env) fp) W0 elt fe) (hs : ∀ x, foldedSetIterable iter X.env x = pure x) :
    LS X W (.Assign [.Name y pos'] (.ListComp elt [⟨tg, iter, ifs, 0⟩] scope p1) pos) (fun env => (fLn fi ft fc fe is env).bind fun r => (optR (settle r.1 r.2)).bind fun r => (optR (put i r.1 r.2)).bind fun e1 => .ok (.nx, e1)) := by
  refine PS.imp (ps_setLc (g := liftG X.K X.mg W0 (tgs t) ft) (tt := liftT X.K X.mg W0 fc) (te := liftE X.K X.mg W0 fe) hc hN hy hyl hsw hi ok hg ht he hs) fun D σ H h => ?_
  rw [hown]
  exact imp_ln hsub (asg_imp h)
theorem ls_setDc {p1 pos' : Pos} {i : Nat} {y : Str} (hu : X.A.units + 1 < cLine)
    (hown : own.map (·.2) = is) (hc : X.calm = true) (hN : X.N.Nodup) (hy : X.N[i]? = some y) (hyl : X.env.scope.names.lookup y = some .local) (hsw : swapsWith (.DictComp kx vx [⟨tg, iter, ifs, 0⟩] scope p1) (some (.Name y pos')) pos.line X.env = pure true)
    (hi : LI X W tg iter fi) (ok : BlkOk X.N X.env.scope scope own) (hsub : ∀ j ∈ tgs t, j ∈ is)
    (hg : ∀ (s : Shared) (H : Hp) (C : Addr) (cl : List (Str × Addr)) (fp : List Addr), LG (X.blk s H scope (compEnvC scope cl C X.env) fp) W0 tg t ft)
    (ht : ∀ (s : Shared) (H : Hp) (C : Addr) (cl : List (Str × Addr)) (fp : List Addr), PTs (X.blk s H scope (compEnvC scope cl C X.env) fp) ifs (liftT X.K X.mg W0 fc))
    (hk : ∀ (s : Shared) (H : Hp) (C : Addr) (cl : List (Str × Addr)) (fp : List Addr), LE (X.blk s H scope (compEnvC scope cl C X.env) fp) W0 kx fk)
    (hv : ∀ (s : Shared) (H : Hp) (C : Addr) (cl : List (Str × Addr)) (fp : List Addr), LE (X.blk s H scope (compEnvC scope cl C X.env) fp) W0 vx fv) (hs : ∀ x, foldedSetIterable iter X.env x = pure x) :
    LS X W (.Assign [.Name y pos'] (.DictComp kx vx [⟨tg, iter, ifs, 0⟩] scope p1) pos) (fun env => (fDc b fi ft fc fk fv is env).bind fun r => (optR (settle r.1 r.2)).bind fun r => (optR (put i r.1 r.2)).bind fun e1 => .ok (.nx, e1)) := by
  refine PS.imp (ps_setDcA (b0 := b) (g := liftG X.K X.mg W0 (tgs t) ft) (tt := liftT X.K X.mg W0 fc) (tk := liftE X.K X.mg W0 fk) (tv := liftE X.K X.mg W0 fv) hu hc hN hy hyl hsw hi ok hg ht hk hv hs) fun D σ H h => ?_
  rw [hown]
  exact imp_dc hsub (asg_imp h)
end
end PL
set_option Elab.async false
set_option linter.all false
set_option maxRecDepth 100000
set_option maxHeartbeats 1000000
namespace PL
open PySem PySem.Spec PyProof.Rows L2
/-! ### objects -/
theorem Rpf.lookup {K : PySem.W.Frag} {mg : Str → Option Value} {S : Hp} {f : Str} : ∀ {fs : List (Str × PV)} {gs : List (Str × V)} {p : PV}, Rpf K mg S gs fs → fs.lookup f = some p → ∃ v, gs.lookup f = some v ∧ Rp K mg S v p
  | [], gs, p, _, e => by cases e
  | (g, q) :: fs, gs, p, h, e => by
    unfold Rpf at h
    obtain ⟨v, r, rfl, h1, h2⟩ := h
    rw [List.lookup_cons] at e ⊢
    cases hb : f == g with
    | true =>
      rw [hb] at e
      cases e
      exact ⟨v, rfl, h1⟩
    | false =>
      rw [hb] at e
      exact Rpf.lookup h2 e
theorem Rpf.no {K : PySem.W.Frag} {mg : Str → Option Value} {S : Hp} {f : Str} : ∀ {fs : List (Str × PV)} {gs : List (Str × V)}, Rpf K mg S gs fs → fs.lookup f = none → gs.lookup f = none
  | [], gs, h, e => by unfold Rpf at h; subst h; rfl
  | (g, q) :: fs, gs, h, e => by
    unfold Rpf at h
    obtain ⟨v, r, rfl, h1, h2⟩ := h
    rw [List.lookup_cons] at e ⊢
    cases hb : f == g with
    | true => rw [hb] at e; cases e
    | false =>
      rw [hb] at e
      exact Rpf.no h2 e
theorem CellfOk.lookup {K : PySem.W.Frag} {mg : Str → Option Value} {H S : Hp} {f : Str} : ∀ {fs : List (Str × Cell)} {gs : List (Str × V)} {B : List Addr} {c : Cell}, CellfOk K mg H S gs fs B → fs.lookup f = some c → ∃ v B0, gs.lookup f = some v ∧ CellOk K mg H S v c B0
  | [], gs, B, c, h, e => by cases e
  | (g, q) :: fs, gs, B, c, h, e => by
    unfold CellfOk at h
    obtain ⟨v, r, B1, B2, rfl, rfl, h1, h2, h3⟩ := h
    rw [List.lookup_cons] at e ⊢
    cases hb : f == g with
    | true =>
      rw [hb] at e
      cases e
      exact ⟨v, B1, rfl, h1⟩
    | false =>
      rw [hb] at e
      exact CellfOk.lookup h2 e
theorem CellfOk.put {K : PySem.W.Frag} {mg : Str → Option Value} {H S : Hp} {f : Str} {w : V} {p : PV} (hp : Rp K mg S w p) : ∀ {fs : List (Str × Cell)} {gs : List (Str × V)} {B : List Addr}, CellfOk K mg H S gs fs B → ∃ B', CellfOk K mg H S (L2.putF f w gs) (PL.putF f (.fz p) fs) B' ∧ ∀ x ∈ B', x ∈ B
  | [], gs, B, h => by
    unfold CellfOk at h
    obtain ⟨rfl, rfl⟩ := h
    refine ⟨[], ?_, fun x hx => hx⟩
    show CellfOk K mg H S [(f, w)] [(f, .fz p)] []
    unfold CellfOk
    exact ⟨w, [], [], [], rfl, rfl, by unfold CellOk; exact ⟨hp, rfl⟩, by unfold CellfOk; exact ⟨rfl, rfl⟩, fun b hb => by cases hb⟩
  | (g, q) :: fs, gs, B, h => by
    unfold CellfOk at h
    obtain ⟨v, r, B1, B2, rfl, rfl, h1, h2, h3⟩ := h
    by_cases e : f = g
    · subst e
      refine ⟨B2, ?_, fun x hx => List.mem_append_right _ hx⟩
      have e1 : L2.putF f w ((f, v) :: r) = (f, w) :: r := by simp [L2.putF]
      have e2 : PL.putF f (.fz p) ((f, q) :: fs) = (f, .fz p) :: fs := by simp [PL.putF]
      rw [e1, e2]
      unfold CellfOk
      exact ⟨w, r, [], B2, rfl, rfl, by unfold CellOk; exact ⟨hp, rfl⟩, h2, fun b hb => by cases hb⟩
    · obtain ⟨B', k1, k2⟩ := CellfOk.put (f := f) hp h2
      have hne : (f == g) = false := by simpa using e
      have e1 : L2.putF f w ((g, v) :: r) = (g, v) :: L2.putF f w r := by
        have e' : ¬ g = f := fun z => e z.symm
        simp [L2.putF, e, e']
      have e2 : PL.putF f (.fz p) ((g, q) :: fs) = (g, q) :: PL.putF f (.fz p) fs := by simp [PL.putF, hne]
      refine ⟨B1 ++ B', ?_, fun x hx => ?_⟩
      · rw [e1, e2]
        unfold CellfOk
        exact ⟨v, _, B1, B', rfl, rfl, h1, k1, fun b hb z => h3 b hb (k2 b z)⟩
      · rcases List.mem_append.mp hx with z | z
        · exact List.mem_append_left _ z
        · exact List.mem_append_right _ (k2 x z)
theorem CellfOk.len {K : PySem.W.Frag} {mg : Str → Option Value} {H S : Hp} : ∀ {fs : List (Str × Cell)} {gs : List (Str × V)} {B : List Addr}, CellfOk K mg H S gs fs B → gs.length = fs.length
  | [], gs, B, h => by unfold CellfOk at h; obtain ⟨rfl, _⟩ := h; rfl
  | (g, q) :: fs, gs, B, h => by
    unfold CellfOk at h
    obtain ⟨v, r, B1, B2, rfl, rfl, h1, h2, h3⟩ := h
    rw [List.length_cons, List.length_cons, CellfOk.len h2]
section
variable {X : Cx} {W : WX} {o e a : Expr} {es : List Expr} {pos apos p : Pos} {fo fa fe : Env → Res (RV × Env)} {fs : Env → Res (List PV × Env)} {f m C : Str} {cls : Str → Bool} {has : Str → Str → Bool}
/-- the field's name is no class's -/
def FldOk (K : PySem.W.Frag) (mg : Str → Option Value) (cls : Str → Bool) (f : Str) : Prop := ∀ C, cls C = true → ∃ c, mg C = some (.ref c) ∧ Cls K c ∧ NoAttr K c f
theorem le_att (hc : FldOk X.K X.mg cls f) (ha : LE X W a fa) (hb : attributeBase a f X.env (eval a X.env) = eval a X.env) : LE X W (.Attribute a f pos) (fun env => (fa env).bind fun r => attV cls r.1 f r.2) := by
  refine PE.imp (pe_fld ha hb) ?_
  rintro σ H Q ⟨env, S, As, R, h⟩
  refine liftE.mono (bindE Stp.refl R h) ?_
  rintro v H1 ⟨rv, env1, S1, As1, B1, st1, R1, ok1, fr1, h1⟩
  dsimp only at h1
  unfold attV at h1
  cases hv : vwC env1 rv with
  | none => rw [hv] at h1; exact False.elim h1
  | some c =>
    rw [hv] at h1
    dsimp only at h1
    obtain ⟨D, hD⟩ := R1.vw ok1 hv
    cases c with
    | fz q =>
      cases q with
      | obj C gs =>
        by_cases hC : cls C = true
        · obtain ⟨c, hm, hcl, hno⟩ := hc C hC
          have e1 : attC cls (.fz (.obj C gs)) f = (gs.lookup f).map some := by simp [attC, hC]
          rw [e1] at h1
          unfold CellOk at hD
          obtain ⟨a', c', dx, gs', rfl, hm', h2, h3⟩ := rp_obj hD.1
          rw [hm] at hm'
          cases hm'
          cases hl : gs.lookup f with
          | none => rw [hl] at h1; exact False.elim h1
          | some q =>
            rw [hl] at h1
            obtain ⟨z, z1, z2⟩ := h3.lookup hl
            exact ⟨a', c, dx, gs', z, rfl, R1.sub _ _ h2, hcl, hno, z1, finUP (rs := [rv]) st1 R1 (rvs1 ok1) (nil_fr fr1) z2 h1⟩
        · have e1 : attC cls (.fz (.obj C gs)) f = none := by simp [attC, hC]
          rw [e1] at h1
          exact False.elim h1
      | _ => exact False.elim h1
    | obj C gs =>
      by_cases hC : cls C = true
      · obtain ⟨c, hm, hcl, hno⟩ := hc C hC
        unfold CellOk at hD
        obtain ⟨a', c', dx, gs', Bs, rfl, hm', h2, h3, h4, rfl⟩ := hD
        rw [hm] at hm'
        cases hm'
        cases hl : gs.lookup f with
        | none =>
          have e1 : attC cls (.obj C gs) f = none := by simp [attC, hC, hl]
          rw [e1] at h1
          exact False.elim h1
        | some d =>
          obtain ⟨z, B0, z1, z2⟩ := h3.lookup hl
          have gd : getC (.obj C gs) [.at f] = some d := by unfold getC; rw [hl]; unfold getC; rfl
          have own : (∃ q, d = .fz q) ∨ attC cls (.obj C gs) f = some none := by
            cases d with
            | fz q => exact .inl ⟨q, rfl⟩
            | _ => right; simp [attC, hC, hl]
          rcases own with ⟨q, rfl⟩ | e1
          · have e1 : attC cls (.obj C gs) f = some (some q) := by simp [attC, hC, hl]
            rw [e1] at h1
            unfold CellOk at z2
            exact ⟨a', c, dx, gs', z, rfl, h2, hcl, hno, z1, finUP (rs := [rv]) st1 R1 (rvs1 ok1) (nil_fr fr1) z2.1 h1⟩
          · rw [e1] at h1
            refine ⟨a', c, dx, gs', z, rfl, h2, hcl, hno, z1, ?_⟩
            cases rv with
            | val q => exact False.elim h1
            | new q => exact False.elim h1
            | loc j =>
              obtain ⟨As4, B4, R4, st4, ok4, fr4, _⟩ := borrow_ok R1 st1 ok1.1 hv gd ⟨a', c, dx, gs', z, rfl, h2, z1, rfl⟩
              exact h1 z H1 S1 As4 B4 st4 R4 ok4 fr4
            | brw j p c0 =>
              obtain ⟨v0, d0, h0, k1, hg, k2, k3, k4⟩ := ok1
              exact h1 z H1 S1 As1 B1 st1 R1 ⟨v0, d, h0, k1, getC_snoc hv gd, k2.snocF h2 z1, k3, k4⟩ fr1
      · have e1 : attC cls (.obj C gs) f = none := by simp [attC, hC]
        rw [e1] at h1
        exact False.elim h1
    | _ => exact False.elim h1
/-- what a method's name must mean -/
def MetOk (X : Cx) (n : Nat) (has : Str → Str → Bool) (m : Str) (mm : Str → List Arg → FRes) : Prop := ∀ C, has C m = true → ∃ cA g, X.mg C = some (.ref cA) ∧ Cls X.K cA ∧ Meth X.K cA m g ∧ FnAt X.prog X.w X.K X.mg X.base n g [] (mm C)
abbrev fOmt (has : Str → Str → Bool) (m : Str) (mm : Str → List Arg → FRes) (fo : Env → Res (RV × Env)) (fs : Env → Res (List PV × Env)) : Env → Res (RV × Env) := fun env => (fo env).bind fun r => (optR (take r.1 r.2)).bind fun r => match r.1 with
    | .obj C gs => if (gs.lookup m).isNone = true ∧ has C m = true then (fs r.2).bind fun q => endCall none q.2 (mm C (.val (.obj C gs) :: vals q.1)) else .stuck
    | _ => .stuck
theorem le_omt {n : Nat} {mm : Str → List Arg → FRes} (tk : Takes X W) (hr : Room n X.A) (hm : MetOk X n has m mm) (ho : LE X W o fo) (ha : LTs X W es fs) (hpl : (es = [] ∧ fs = fun env => .ok ([], env)) ∨ ∃ e r, es = e :: r ∧ starEach (e :: r) X.env = (false, eval e X.env) :: starEach r X.env ∧ (backTo pos (starEach r X.env)).any (·.1) = false)
    (ht : ∃ pl : PySem.Sem Bool, eval (.Call (.Attribute o m apos) es [] pos) X.env = (do
      let ov ← eval o X.env
      standAt apos.atName
      let (f, first) ← holding [ov] (getMethod ov m pl)
      callWith pos f first (backTo pos (starEach es X.env)) (backToKw pos (keywordEach [] X.env)))) :
    LE X W (.Call (.Attribute o m apos) es [] pos) (fOmt has m mm fo fs) := by
  obtain ⟨pl, ht⟩ := ht
  refine ⟨fun pins s σ H Q I h => methcall_of ho I ?_ ht⟩
  obtain ⟨env, S, As, R, h⟩ := h
  refine liftE.mono (bindE Stp.refl R h) ?_
  rintro v H1 ⟨rv, env1, S1, As1, B1, st1, R1, ok1, fr1, h1⟩
  obtain ⟨⟨q, env2⟩, e1, h1⟩ := h1.opt
  obtain ⟨S2, As2, R2, st2, rp2, sm2, _⟩ := take_ok R1 ok1 st1 fr1 e1
  dsimp only at h1
  cases q with
  | obj C gs =>
    dsimp only at h1
    by_cases hc : (gs.lookup m).isNone = true ∧ has C m = true
    · rw [if_pos hc] at h1
      obtain ⟨cA, g, hmC, hcl, hme, F⟩ := hm C hc.2
      obtain ⟨a', c', dx, gs', rfl, hm', h2, h3⟩ := rp_obj rp2
      rw [hmC] at hm'
      cases hm'
      have hno : gs'.lookup m = none := h3.no (by simpa using hc.1)
      refine ⟨a', cA, dx, gs', g, rfl, R2.sub _ _ h2, hcl, hme, hno, fun s1 I1 => ?_⟩
      obtain ⟨fd, ps, ok, bi, ln, _⟩ := F.ok
      have key : liftTs X.K X.mg W fs σ H1 (fun vs H2 => spL X.K X.mg ps.length (mm C) (.ref a' :: vs) H2 Q (WE W σ)) := by
        refine liftTs.mono (bindTs st2 R2 h1) ?_
        rintro vs H2 ⟨qs, env3, S3, As3, st3, R3, rs, h4⟩
        have hlen : (Arg.val (.obj C gs) :: vals qs).length = ps.length := ln _ fun z => by
          dsimp only at h4
          rw [z] at h4
          exact False.elim h4
        have rr : Rps X.K X.mg S3 (.ref a' :: vs) (.obj C gs :: qs) := Rps.cons (Rp.mono st3.same _ _ rp2) rs
        exact call_reading (n := n) (by rw [rr.length, ← hlen]; simp [vals]) (st2.trans st3) R3 (args_vals rr) h4
      rcases hpl with ⟨rfl, rfl⟩ | ⟨e, r, rfl, hs, hp⟩
      · refine PySem.W.callWith_K0 (first := [.ref a']) I1.kIn hme.kp ?_
        have hlen : (Arg.val (.obj C gs) :: vals []).length = ps.length := ln _ fun z => by
          have h1 : Post X.K X.mg W H S As (endCall none env2 (mm C (Arg.val (.obj C gs) :: vals []))) (KE X.K X.mg σ H S As Q) := h1
          rw [z] at h1
          exact False.elim h1
        have q2 := call_reading (n := n) (np := ps.length) (vs := [.ref a']) (args := Arg.val (.obj C gs) :: vals []) (by rw [← hlen]; rfl) st2 R2 (args_vals (Rps.cons rp2 Rps.nil)) h1
        exact run_fnS (us := [.ref a']) (vs := [.ref a']) ok hr bi (passAt tk σ) I1 (.cons rfl .nil) q2
      · refine PySem.W.callWith_K (first := [.ref a']) (h₀ := X.base) I1.ok.mod.kin hme.kp (thn (ha.run pos pins s1 σ H1 _ I1 key) fun us s2 ⟨vs, H2, I2, r2, q2⟩ => ⟨I2.kIn, ?_⟩) hs hp
        exact run_fnS (us := .ref a' :: us) (vs := .ref a' :: vs) ok hr bi (passAt tk σ) I2 (.cons rfl r2) q2
    · rw [if_neg hc] at h1; exact False.elim h1
  | _ => exact False.elim h1
/-- the class is made by its name -/
def MakOk (X : Cx) (n : Nat) (C : Str) (mm : List Arg → FRes) : Prop := ∃ cA g, X.mg C = some (.ref cA) ∧ Mk X.K cA g ∧ FnAt X.prog X.w X.K X.mg X.base n g [] mm
theorem run_makeS {k : Nat} {C f : Addr} {fd : FuncData} {ps : List Str} {sp : Sp} {E : XK} {CX : CXT} {pins : List (Addr × Obj)} {σ : L2.St} {H : Hp} {s : Shared} {Q : VK} {us : List Value} {vs : List V} (M : Mk X.K C f) (F : FnOk X.prog X.w X.K X.mg X.base CX k f fd ps sp) (hr : Room (k + 1) X.A) (hb : Binds X.K fd ps [])
    (hx : ∀ (pins : List (Addr × Obj)) (H : Hp) (s : Shared) (e : Value) (s' : Shared), Inv X pins σ H s → CX X.stack H s E e s' → X.xe e s') (I : Inv X pins σ H s) (r : Vals vs us)
    (h : ∀ x dx, H x = none → H dx = none → dx ≠ x → sp (.ref x :: vs) (upd (upd H dx (.own x)) x (.ins C dx [])) (fun v H2 => v = .non ∧ Q (.ref x) H2) E) :
    wpAny (model X.prog X.w) X.A (call (.ref C) us) (EP X pins σ Q) X.xe s := by
  have hq := h (s.heap.objs.size + 1) s.heap.objs.size (I.hok.fresh (Nat.le_succ _)) (I.hok.fresh (Nat.le_refl _)) (Nat.ne_of_lt (Nat.lt_succ_self _))
  have I2 := Inv.made (C := C) I
  have r2 : Vals (V.ref (s.heap.objs.size + 1) :: vs) (Value.ref (s.heap.objs.size + 1) :: us) := .cons rfl r
  have hl : (Value.ref (s.heap.objs.size + 1) :: us).length = ps.length := by
    have e := r2.length
    rw [F.len _ _ _ _ hq] at e
    exact e.symm
  have hb' := hb _ (Value.ref (s.heap.objs.size + 1) :: us) I2.kIn (by rw [List.append_nil]; exact hl)
  rw [List.append_nil] at hb'
  refine wpAny_call (make_map (f := f) I.kIn M.makes M.init (beq_iff_eq.mp M.fn) (codeAny_mono (F.run _ X.stack _ _ ⟨Value.ref (s.heap.objs.size + 1) :: us, []⟩ (Value.ref (s.heap.objs.size + 1) :: us) _ _ E (hr.make C us [])
    (I2.env0.make C us []) hb' r2 hq) fun r s' hq' => ?_))
  cases r with
  | error e => exact hx pins _ _ e s' I2 hq'
  | ok fl =>
    cases fl with
    | ret u =>
      obtain ⟨v, H', I3, rv, ev, q3⟩ := I2.after hq'
      subst ev
      exact ⟨rv, ⟨V.ref (s.heap.objs.size + 1), H', I3, rfl, q3⟩⟩
    | next => exact False.elim hq'
    | brk => exact False.elim hq'
    | cont => exact False.elim hq'
abbrev fMk (C : Str) (mm : List Arg → FRes) (fs : Env → Res (List PV × Env)) : Env → Res (RV × Env) := fun env => (fs env).bind fun r => match mm (.own (.obj C []) :: vals r.1) with
    | .ok (.val .non) (some c) => .ok (.new c, r.2)
    | .exc C' fs => .exc C' fs r.2
    | _ => .stuck
theorem le_mk {n : Nat} {mm : List Arg → FRes} (tk : Takes X W) (hr : Room (n + 1) X.A) (M : MakOk X n C mm) (hg : Gl X C) (ha : LTs X W (e :: es) fs) (hdb : (C == ("__debug__" : Str)) = false) (he : starEach (e :: es) X.env = (false, eval e X.env) :: starEach es X.env) (hpl : (backTo pos (starEach es X.env)).any (·.1) = false) :
    LE X W (.Call (.Name C p) (e :: es) [] pos) (fMk C mm fs) := by
  obtain ⟨cA, g, hm, hM, F⟩ := M
  obtain ⟨fd, ps, ok, bi, ln, _⟩ := F.ok
  refine ⟨fun pins s σ H Q I h => ?_⟩
  refine wpAny_Call_Name_kw (ld_glob I hg hm ?_ hdb)
  have key : liftTs X.K X.mg W fs σ H (fun vs H1 => ∀ x dx, H1 x = none → H1 dx = none → dx ≠ x → spL X.K X.mg ps.length mm (.ref x :: vs) (upd (upd H1 dx (.own x)) x (.ins cA dx [])) (fun v H2 => v = .non ∧ Q (.ref x) H2) (WE W σ)) := by
    obtain ⟨env, S, As, R, h⟩ := h
    refine liftTs.mono (bindTs Stp.refl R h) ?_
    rintro vs H1 ⟨qs, env1, S1, As1, st1, R1, rs, h1⟩ x dx hx hdx hne
    dsimp only at h1
    have hlen : (Arg.own (.obj C []) :: vals qs).length = ps.length := ln _ fun z => by rw [z] at h1; exact False.elim h1
    obtain ⟨R2, st2⟩ := R1.layN (o := .own x) hdx
    obtain ⟨R3, st3⟩ := R2.layN (p := x) (o := .ins cA dx []) (by rw [upd_ne (Ne.symm hne)]; exact hx)
    have st13 := st2.trans st3
    have noX : ¬ Own As1 x := fun z => R1.there z hx
    have fzX : S1 x = none := R1.sub.free hx
    refine ⟨by rw [List.length_cons, rs.length, ← hlen]; simp [vals], .own (.obj C []) :: vals qs, S1, [x], R3.sub, ⟨.ref x, vs, qs, rfl, rfl, ?_, rs⟩, fun b hb => ?_, ?_⟩
    · unfold CellOk
      exact ⟨x, cA, dx, [], [], rfl, hm, upd_same, by unfold CellfOk; exact ⟨rfl, rfl⟩, by simp, rfl⟩
    · obtain rfl : b = x := by simpa using hb
      exact fzX
    have back : ∀ {H' S' : Hp} {Bo Br : List Addr}, CallEnd X.K X.mg (upd (upd H1 dx (.own x)) x (.ins cA dx [])) S1 [x] H' S' Bo Br → Rel X.K X.mg σ env1 H' S' As1 ∧ Stp H1 S1 As1 H' S' As1 := fun {H' S' Bo Br} ce => by
      have h2 : ∀ b, upd (upd H1 dx (.own x)) x (.ins cA dx []) b = none → H1 b = none := fun b hb => by
        cases e : H1 b with
        | none => rfl
        | some o =>
          have n1 : b ≠ x := fun z => by rw [z, hx] at e; cases e
          have n2 : b ≠ dx := fun z => by rw [z, hdx] at e; cases e
          rw [upd_ne n1, upd_ne n2, e] at hb
          cases hb
      have h3 : ∀ b, Nw (upd (upd H1 dx (.own x)) x (.ins cA dx []) b) → Nw (H1 b) := fun b hb => by
        rcases hb with hb | ⟨vs, hb⟩
        · exact .inl (h2 b hb)
        · by_cases n1 : b = x
          · rw [n1, upd_same] at hb; cases hb
          · by_cases n2 : b = dx
            · rw [n2, upd_ne hne, upd_same] at hb; cases hb
            · rw [upd_ne n1, upd_ne n2] at hb; exact .inr ⟨vs, hb⟩
      have fr : ∀ b o, H1 b = some o → H' b = some o := fun b o e => by
        have n1 : b ≠ x := fun z => by rw [z, hx] at e; cases e
        have n2 : b ≠ dx := fun z => by rw [z, hdx] at e; cases e
        exact ce.fr b o (by rw [upd_ne n1, upd_ne n2]; exact e) (by simpa using n1)
      have nw : ∀ b, S' b ≠ none → S1 b ≠ none ∨ Own As1 b ∨ Nw (H1 b) := fun b hb => (ce.new b hb).elim .inl fun z => .inr (.inr (z.elim (fun q => by
        obtain rfl : b = x := by simpa using q
        exact .inl hx) (h3 b)))
      refine ⟨R1.grow ce.sub ce.same (fun b hb => ?_) fun b hb => ?_, ce.same, fun b o e _ => fr b o e, fun b hb => .inl hb, nw, rfl⟩
      · cases e : H1 b with
        | none => exact absurd e (R1.there hb)
        | some o => exact fr b o e
      · cases e : S' b with
        | none => rfl
        | some o =>
          rcases ce.new b (by rw [e]; simp) with z | z | z
          · exact absurd (R1.free b hb) z
          · obtain rfl : b = x := by simpa using z
            exact absurd hb noX
          · exact absurd (h3 b z) (R1.thereN hb)
    cases hr0 : mm (.own (.obj C []) :: vals qs) with
    | stuck => rw [hr0] at h1; exact False.elim h1
    | exc C' fs' =>
      rw [hr0] at h1
      intro cls d H' S' ce ex
      obtain ⟨R', st'⟩ := back ce
      exact h1 σ H' S' As1 cls d (st1.trans st') R' ex
    | ok r out =>
      rw [hr0] at h1
      have hro : ∃ c, r = .val .non ∧ out = some c := by
        cases r with
        | val q =>
          cases q with
          | non => cases out with
            | some c => exact ⟨c, rfl, rfl⟩
            | none => exact False.elim h1
          | _ => exact False.elim h1
        | _ => exact False.elim h1
      obtain ⟨c, rfl, rfl⟩ := hro
      intro v H' S' Bo Br ce rt ot
      obtain ⟨R', st'⟩ := back ce
      obtain ⟨u, r', e2, hc'⟩ := ot
      cases e2
      refine ⟨rp_non rt.1, h1 (.ref x) H' S' As1 Bo (st1.trans st') R' ⟨hc', fun b hb => ?_⟩ fun b hb => ?_⟩
      · refine ⟨fun z => ?_, (ce.own b (.inl hb)).2⟩
        rcases (ce.own b (.inl hb)).1 with q | q
        · obtain rfl : b = x := by simpa using q
          exact noX z
        · exact R3.there z q
      · refine st1.fresh ?_
        rcases (ce.own b (.inl hb)).1 with q | q
        · obtain rfl : b = x := by simpa using q
          exact .inl hx
        · left
          cases e : H1 b with
          | none => rfl
          | some o =>
            have n1 : b ≠ x := fun z => by rw [z, hx] at e; cases e
            have n2 : b ≠ dx := fun z => by rw [z, hdx] at e; cases e
            rw [upd_ne n1, upd_ne n2, e] at q
            cases q
  refine PySem.W.callWith_K (h₀ := X.base) I.ok.mod.kin hM.kp (thn (ha.run pos pins s σ H _ I key) fun us s1 ⟨vs, H1, I1, r, q⟩ => ⟨I1.kIn, ?_⟩) he hpl
  exact run_makeS hM ok hr bi (passAt tk σ) I1 r q
/-- o.f = e -/
theorem ls_fld (hc : FldOk X.K X.mg cls f) (ho : LE X W o fo) (he : LE X W e fe) (hs : swapsWith e (some (.Attribute o f p)) pos.line X.env = pure false) : LS X W (.Assign [.Attribute o f p] e pos) (fun env => (fe env).bind fun r => (optR (take r.1 r.2)).bind fun r =>
      (((fo r.2).bind fun q => match vwC q.2 q.1 with
        | some (.obj C gs) => if gs.length < 1000 ∧ cls C = true then wrt q.1 (.obj C (PL.putF f (.fz r.1) gs)) q.2 else .stuck
        | _ => .stuck).bind fun e1 => .ok (.nx, e1))) := by
  refine PS.imp (ps_fld ho he hs) ?_
  rintro D σ H ⟨env, S, As, R, h⟩
  refine liftE.mono (bindE Stp.refl R h) ?_
  rintro v H1 ⟨rv, env1, S1, As1, B1, st1, R1, ok1, fr1, h1⟩
  obtain ⟨⟨q, env2⟩, e1, h1⟩ := h1.opt
  obtain ⟨S2, As2, R2, st2, rp2, sm2, _⟩ := take_ok R1 ok1 st1 fr1 e1
  dsimp only at h1
  rw [Res.assoc] at h1
  refine liftE.mono (bindE st2 R2 h1) ?_
  rintro x H2 ⟨rv2, env3, S3, As3, B3, st3, R3, ok3, fr3, h3⟩
  dsimp only at h3
  cases hv : vwC env3 rv2 with
  | none => rw [hv] at h3; exact False.elim h3
  | some c =>
    rw [hv] at h3
    cases c with
    | obj C gs =>
      dsimp only at h3
      by_cases hcc : gs.length < 1000 ∧ cls C = true
      · rw [if_pos hcc] at h3
        obtain ⟨D0, hD⟩ := R3.vw ok3 hv
        have hD0 := hD
        unfold CellOk at hD0
        obtain ⟨a', c', dx, gs', Bs, rfl, hm', g1, g2, g3, rfl⟩ := hD0
        obtain ⟨c, hm, hcl, hno⟩ := hc C hcc.2
        obtain rfl : c' = c := by rw [hm] at hm'; cases hm'; rfl
        refine ⟨a', c', dx, gs', rfl, g1, hcl, hno, by rw [g2.len]; exact hcc.1, ?_⟩
        cases hw : wrt rv2 (.obj C (PL.putF f (.fz q) gs)) env3 with
        | stuck => rw [hw] at h3; exact False.elim h3
        | exc C fs' e' => cases rv2 <;> cases hw
        | ok env4 =>
          rw [hw] at h3
          obtain ⟨As4, R4, st4⟩ := wrt_ok (b := a') (o := .ins c' dx (L2.putF f v gs')) R3 (st2.trans st3) ok3 (fun b hb => st2.fresh (fr3 b hb)) hv hw (fun D1 hD1 => by
            unfold CellOk at hD1
            obtain ⟨a2, c2, dx2, gs2, Bs2, e5, hm2, k1, k2, k3, rfl⟩ := hD1
            cases e5
            rw [g1] at k1
            cases k1
            obtain ⟨B', k4, k5⟩ := CellfOk.put (f := f) (Rp.mono st3.same _ _ rp2) (CellfOk.fr (H' := upd H2 a' (.ins c' dx (L2.putF f v gs'))) (Same.refl _) _ _ _ k2 fun b hb => upd_ne fun z => k3 (z ▸ hb))
            refine ⟨List.mem_cons_self, a' :: B', ?_, fun x hx => ?_⟩
            · unfold CellOk
              exact ⟨a', c', dx, _, B', rfl, hm, upd_same, k4, fun z => k3 (k5 _ z), rfl⟩
            · rcases List.mem_cons.mp hx with rfl | hx
              · exact List.mem_cons_self
              · exact List.mem_cons_of_mem _ (k5 x hx)) rfl
          exact h3 σ _ S3 As4 st4 R4
      · rw [if_neg hcc] at h3; exact False.elim h3
    | _ => exact False.elim h3
end
end PL
set_option Elab.async false
set_option linter.all false
set_option maxRecDepth 100000
set_option maxHeartbeats 1000000
namespace PL
open PySem PySem.Spec PyProof.Rows L2
section
variable {X : Cx} {W : WX} {a b c d e tg : Expr} {es : List Expr} {p pos : Pos} {fa fb fc fd : Env → Res (RV × Env)}
/-! ### a new dict, locked for good -/
theorem pe_lk {t : TE} (h : PE X e t) : PE X e (fun σ H Q => t σ H fun v H1 => ∃ d u, v = .ref d ∧ H1 d = some u ∧ Mut (some u) ∧ ∀ od, Q v (upd H1 d (.frz od u))) := by
  refine ⟨fun pins s σ H Q I q => thn (h.run pins s σ H _ I q) fun v s1 ⟨x, H1, I1, r1, d, u, ex, hd, mu, q1⟩ => ?_⟩
  obtain ⟨od, I2⟩ := I1.lock hd mu
  exact ⟨x, _, I2, r1, q1 od⟩
theorem le_lck (ha : LE X W a fa) : LE X W a (fun env => (fa env).bind fun r => match r.1 with
    | .new (.dct false kvs) => .ok (.val (.dcl kvs), r.2)
    | _ => .stuck) := by
  refine PE.imp (pe_lk ha) ?_
  rintro σ H Q ⟨env, S, As, R, h⟩
  refine liftE.mono (bindE Stp.refl R h) ?_
  rintro v H1 ⟨rv, env1, S1, As1, B1, st1, R1, ok1, fr1, h1⟩
  have key : ∃ kvs, rv = .new (.dct false kvs) := by
    cases rv with
    | new c =>
      cases c with
      | dct b kvs => cases b with
        | false => exact ⟨kvs, rfl⟩
        | true => exact False.elim h1
      | _ => exact False.elim h1
    | _ => exact False.elim h1
  obtain ⟨kvs, rfl⟩ := key
  obtain ⟨hc, hn⟩ := ok1
  unfold CellOk at hc
  obtain ⟨d, ws, rfl, ⟨ks, hd, rfl⟩, hr, rfl⟩ := hc
  obtain ⟨no, fz⟩ := hn d List.mem_cons_self
  refine ⟨d, _, rfl, hd, trivial, fun od => ?_⟩
  have hS : Same S1 (upd S1 d (.frz od (.dK ks))) := fun x o q => by rw [upd_ne fun z => by rw [z, fz] at q; cases q]; exact q
  have R2 : Rel X.K X.mg σ env1 (upd H1 d (.frz od (.dK ks))) (upd S1 d (.frz od (.dK ks))) As1 := by
    refine R1.grow (fun x o q => ?_) hS (fun x hx => by
      have hne : x ≠ d := fun z => no (z ▸ hx)
      exact upd_ne hne) fun x hx => ?_
    · by_cases z : x = d
      · subst z; rw [upd_same] at q ⊢; exact q
      · rw [upd_ne z] at q ⊢; exact R1.sub x o q
    · have hne : x ≠ d := fun z => no (z ▸ hx)
      rw [upd_ne hne]; exact R1.free x hx
  have hH : H d = none ∨ Own As d := fr1 d List.mem_cons_self
  have st2 : Stp H S As (upd H1 d (.frz od (.dK ks))) (upd S1 d (.frz od (.dK ks))) As1 := by
    refine ⟨st1.same.trans hS, fun x o q n => ?_, st1.own, fun x q => ?_, st1.root⟩
    · rw [upd_ne fun z => ?_]
      · exact st1.fr x o q n
      · subst z
        rcases hH with y | y
        · rw [y] at q; cases q
        · exact n y
    · by_cases z : x = d
      · subst z
        rcases hH with y | y
        · exact .inr (.inr (.inl y))
        · exact .inr (.inl y)
      · rw [upd_ne z] at q; exact st1.new x q
  exact h1 (.ref d) _ _ As1 [] st2 R2 ⟨by unfold Rp; exact ⟨d, _, rfl, ⟨od, ks, upd_same, rfl⟩, Rpd.mono hS _ _ hr⟩, rfl⟩ fun b hb => by cases hb
/-! ### xs[::-1] -/
theorem le_rev {k : Nat} {p1 p2 p3 : Pos} (ha : LE X W a fa) : LE X W (.Subscript a (.Slice none none (some (.UnaryOp .USub (.Constant (.int 1) k p1) p2)) p3) pos) (fun env => (fa env).bind fun r => (optR (rd r.2 r.1)).bind fun x => match x with
    | .lst xs => .ok (.new (.lst xs.reverse), unb r.1 r.2)
    | _ => .stuck) := by
  refine PE.imp (pe_revL ha) ?_
  rintro σ H Q ⟨env, S, As, R, h⟩
  refine liftE.mono (bindE Stp.refl R h) ?_
  rintro v H1 ⟨rv, env1, S1, As1, B1, st1, R1, ok1, fr1, h1⟩
  obtain ⟨x, e1, h1⟩ := h1.opt
  have hx := R1.rd ok1 e1
  cases x with
  | lst xs =>
    obtain ⟨a', vs, rfl, t, m⟩ := hx
    refine ⟨a', vs, rfl, SqL.of t, fun p hp => finU (vr := .lst xs.reverse) (rs := [rv]) st1 R1 (rvs1 ok1) (nil_fr fr1) ⟨p, _, rfl, hp, rfl, ?_⟩ h1⟩
    have hrev : ∀ {xs : List PV} {vs : List V}, Rps X.K X.mg S1 vs xs → Rps X.K X.mg S1 vs.reverse xs.reverse := by
      intro xs
      induction xs with
      | nil => intro vs h; unfold Rps at h; subst h; exact Rps.nil
      | cons q r ih =>
        intro vs h
        obtain ⟨w, r', rfl, g1, g2⟩ := h.uncons
        rw [List.reverse_cons, List.reverse_cons]
        exact (ih g2).append (Rps.cons g1 Rps.nil)
    exact hrev m
  | _ => exact False.elim h1
/-! ### range(i, j, -1) -/
theorem rangeC_len (c : Int) : ∀ (n : Nat) (lo : Int), (rangeC lo c n).length = n
  | 0, _ => rfl
  | n + 1, lo => by simp [rangeC, rangeC_len c n]
theorem rangeC_get (c : Int) : ∀ (n : Nat) (lo : Int) (i : Nat) (p : PV), (rangeC lo c n)[i]? = some p → i < n ∧ p = .int (lo + (i : Nat) * c)
  | 0, lo, i, p, h => by simp [rangeC] at h
  | n + 1, lo, 0, p, h => by
    simp [rangeC] at h
    exact ⟨by omega, by rw [← h]; simp⟩
  | n + 1, lo, i + 1, p, h => by
    simp only [rangeC, List.getElem?_cons_succ] at h
    obtain ⟨h1, h2⟩ := rangeC_get c n (lo + c) i p h
    refine ⟨by omega, ?_⟩
    rw [h2]
    congr 1
    have : ((i + 1 : Nat) : Int) * c = (i : Int) * c + c := by push_cast; rw [Int.add_mul, Int.one_mul]
    rw [this]
    omega
theorem walk_rangeC {K : PySem.W.Frag} {mg : Str → Option Value} {S T : Hp} {lo c : Int} {n : Nat} (hz : n ≤ sizeLine) : WalkOk K mg S T (Itc lo c n) (rangeC lo c n) := by
  refine ⟨fun H s _ i p e => ?_, fun H s _ i hi => by rw [rangeC_len] at hi; exact hi, by rw [rangeC_len]; exact hz⟩
  obtain ⟨h1, rfl⟩ := rangeC_get c n lo i p e
  exact ⟨h1, fun x H3 ⟨y1, y2⟩ => .inl ⟨y1, by rw [y2]; exact Rp.int _⟩⟩
theorem rvs_three {K : PySem.W.Frag} {mg : Str → Option Value} {σ : SlotV} {H S : Hp} {As : Fp} {vs : List V} {i j k : Int} {B : List Addr} (h : RvsOk K mg σ H S As vs [.val (.int i), .val (.int j), .val (.int k)] B) : vs = [.int i, .int j, .int k] := by
  obtain ⟨v, r, B1, B2, rfl, rfl, h1, h2, _⟩ := h
  rw [rp_int h1.1, rvs_two h2]
theorem li_range3 {fs : Env → Res (List RV × Env)} (hg : Gl X "range") (hm : X.mg "range" = none) (ha : LHs X W [a, b, c] fs) (hl : ∀ env r, fs env = .ok r → r.1.length = 3)
    (hs : starEach [a, b, c] X.env = (false, eval a X.env) :: starEach [b, c] X.env) (hpl : (backTo pos (starEach [b, c] X.env)).any (·.1) = false) :
    LI X W tg (.Call (.Name "range" p) [a, b, c] [] pos) (rngV fs) := by
  refine PI.imp (pi_range3 hg hm ha hs hpl) ?_
  rintro σ H R ⟨env, S, As, Rl, h⟩
  have h' : Post X.K X.mg W H S As ((fs env).bind fun r => match r.1 with
      | [.val (.int i), .val (.int j), .val (.int c)] => if bnd i ∧ bnd j ∧ c = -1 ∧ (i - j).toNat ≤ sizeLine then .ok ((rangeC i c (i - j).toNat, .val .non), r.2) else .stuck
      | _ => .stuck) (KI X.K X.mg σ H S As R) := by
    have := hl env
    unfold rngV at h
    revert h this
    cases fs env with
    | ok r =>
      intro h this
      have := this r rfl
      obtain ⟨rs, e⟩ := r
      match rs, this with
      | [x, y, z], _ => cases x with
        | val q => cases q <;> (cases y with
          | val q => cases q <;> (cases z with
            | val q => cases q <;> exact h
            | loc j => exact h
            | new c => exact h
            | brw j p c => exact h)
          | loc j => exact h
          | new c => exact h
          | brw j p c => exact h)
        | loc j => cases y <;> exact h
        | new c => cases y <;> exact h
        | brw j p c => cases y <;> exact h
    | exc C gs e => exact fun h _ => h
    | stuck => exact fun h _ => h
  refine liftHs.mono (bindHs Stp.refl Rl h') ?_
  rintro vs H1 ⟨rs, env1, S1, As1, B1, st1, R1, ok1, fr1, h1⟩
  split at h1
  · rename_i i j k e
    obtain rfl : rs = [.val (.int i), .val (.int j), .val (.int k)] := e
    split at h1
    · rename_i hc
      obtain ⟨⟨h1a, h1b⟩, ⟨h2a, h2b⟩, rfl, hz⟩ := hc
      refine ⟨i, j, -1, (i - j).toNat, rvs_three ok1, RgC.neg h1a h1b h2a h2b, ?_⟩
      exact h1 _ H1 S1 As1 .non [] st1 R1 keep0 (fun b hb => by cases hb) (walk_rangeC hz)
    · exact False.elim h1
  · exact False.elim h1
/-! ### list(range(..)), tuple(range(..)) -/
theorem rgV_rps {K : PySem.W.Frag} {mg : Str → Option Value} {S : Hp} : ∀ (n : Nat) (i : Int), Rps K mg S ((List.range n).map fun k => V.int (i + (k : Nat))) (rangeP i n)
  | 0, i => Rps.nil
  | n + 1, i => by
    rw [List.range_succ_eq_map, List.map_cons, List.map_map]
    unfold rangeP
    have e0 : i + ((0 : Nat) : Int) = i := by simp
    refine Rps.cons (by rw [e0]; exact Rp.int i) ?_
    have := rgV_rps (K := K) (mg := mg) (S := S) n (i + 1)
    have e : (List.range n).map ((fun k : Nat => V.int (i + (k : Nat))) ∘ Nat.succ) = (List.range n).map fun k => V.int (i + 1 + (k : Nat)) := by
      apply List.map_congr_left
      intro k _
      show V.int (i + ((k + 1 : Nat) : Int)) = _
      congr 1
      push_cast
      omega
    rw [e]
    exact this
/-- a range of one or two parts, as LE takes it -/
def fRg (fs : Env → Res (List RV × Env)) : Env → Res ((List PV × RV) × Env) := rngV fs
theorem rg_fin {K : PySem.W.Frag} {mg : Str → Option Value} {σ : SlotV} {H S : Hp} {As : Fp} {env1 : Env} {Q : VK} {H1 S1 : Hp} {As1 : Fp} {i : Int} {n : Nat} (st1 : Stp H S As H1 S1 As1) (R1 : Rel K mg σ env1 H1 S1 As1)
    (h : KE K mg σ H S As Q (.new (.lst (rangeP i n))) env1) : ∀ q, H1 q = none → Q (.ref q) (upd H1 q (.lst ((List.range n).map fun k => V.int (i + (k : Nat))))) := fun q hq =>
  finVR (vr := .lst (rangeP i n)) st1 R1 ⟨q, _, rfl, hq, rfl, rgV_rps n i⟩ h
theorem rg_finT {K : PySem.W.Frag} {mg : Str → Option Value} {σ : SlotV} {H S : Hp} {As : Fp} {env1 : Env} {Q : VK} {H1 S1 : Hp} {As1 : Fp} {i : Int} {n : Nat} (st1 : Stp H S As H1 S1 As1) (R1 : Rel K mg σ env1 H1 S1 As1)
    (h : KE K mg σ H S As Q (.val (.tup (rangeP i n))) env1) : ∀ q, H1 q = none → Q (.ref q) (upd H1 q (.tup ((List.range n).map fun k => V.int (i + (k : Nat))))) := fun q hq =>
  finVR (vr := .tup (rangeP i n)) st1 R1 (.inr ⟨q, _, rfl, hq, rfl, rgV_rps n i⟩) h
abbrev fSeq (f : Str) (fi : Env → Res ((List PV × RV) × Env)) : Env → Res (RV × Env) := fun env => (fi env).bind fun r => if f = ("tuple" : Str) then .ok (.val (.tup r.1.1), unb r.1.2 r.2) else if f = ("list" : Str) then .ok (.new (.lst r.1.1), unb r.1.2 r.2) else .stuck
theorem le_seq1 {f : Str} {p2 q : Pos} (hc : X.calm = true) (hf : f = "list" ∨ f = "tuple") (hg : Gl X f) (hm : X.mg f = none) (hg2 : Gl X "range") (hm2 : X.mg "range" = none) (ha : LE X W a fa) (hst : starEach [a] X.env = (false, eval a X.env) :: starEach [] X.env) :
    LE X W (.Call (.Name f p) [.Call (.Name "range" p2) [a] [] q] [] pos) (fSeq f (rngV fun env => (fa env).bind fun r => .ok ([r.1], r.2))) := by
  have key : ∀ {σ H Q}, liftE X.K X.mg W (fSeq f (rngV fun env => (fa env).bind fun r => .ok ([r.1], r.2))) σ H Q → ∀ (g : VK), (∀ n H1 S1 As1 env1 S As, Stp H S As H1 S1 As1 → Rel X.K X.mg σ env1 H1 S1 As1 → bnd n ∧ n.toNat ≤ sizeLine → KE X.K X.mg σ H S As Q (if f = ("tuple" : Str) then .val (.tup (rangeP 0 n.toNat)) else .new (.lst (rangeP 0 n.toNat))) env1 → g (.int n) H1) → liftE X.K X.mg W fa σ H g := by
    intro σ H Q h g hg
    obtain ⟨env, S, As, R, h⟩ := h
    have h2 : Post X.K X.mg W H S As ((fa env).bind fun r => ((match r.1 with
        | .val (.int j) => if bnd j ∧ j.toNat ≤ sizeLine then .ok ((rangeP 0 j.toNat, .val .non), r.2) else .stuck
        | _ => .stuck : Res ((List PV × RV) × Env))).bind fun r => if f = ("tuple" : Str) then .ok (.val (.tup r.1.1), unb r.1.2 r.2) else if f = ("list" : Str) then .ok (.new (.lst r.1.1), unb r.1.2 r.2) else .stuck) (KE X.K X.mg σ H S As Q) := by
      have e : ∀ x : Res (RV × Env), ((x.bind fun r => Res.ok ([r.1], r.2)).bind fun r => (match r.1 with
        | [.val (.int j)] => if bnd j ∧ j.toNat ≤ sizeLine then Res.ok ((rangeP 0 j.toNat, RV.val .non), r.2) else .stuck
        | [.val (.int i), .val (.int j)] => if bnd i ∧ bnd j ∧ (j - i).toNat ≤ sizeLine then .ok ((rangeP i (j - i).toNat, .val .non), r.2) else .stuck
        | [.val (.int i), .val (.int j), .val (.int c)] => if bnd i ∧ bnd j ∧ c = -1 ∧ (i - j).toNat ≤ sizeLine then .ok ((rangeC i c (i - j).toNat, .val .non), r.2) else .stuck
        | _ => .stuck)) = x.bind fun r => match r.1 with
        | .val (.int j) => if bnd j ∧ j.toNat ≤ sizeLine then .ok ((rangeP 0 j.toNat, .val .non), r.2) else .stuck
        | _ => .stuck := by
        intro x
        cases x with
        | ok r =>
          obtain ⟨v, e⟩ := r
          cases v with
          | val q => cases q <;> rfl
          | _ => rfl
        | _ => rfl
      have h3 : Post X.K X.mg W H S As (((((fa env).bind fun r => Res.ok ([r.1], r.2)).bind fun r => (match r.1 with
        | [.val (.int j)] => if bnd j ∧ j.toNat ≤ sizeLine then Res.ok ((rangeP 0 j.toNat, RV.val .non), r.2) else .stuck
        | [.val (.int i), .val (.int j)] => if bnd i ∧ bnd j ∧ (j - i).toNat ≤ sizeLine then .ok ((rangeP i (j - i).toNat, .val .non), r.2) else .stuck
        | [.val (.int i), .val (.int j), .val (.int c)] => if bnd i ∧ bnd j ∧ c = -1 ∧ (i - j).toNat ≤ sizeLine then .ok ((rangeC i c (i - j).toNat, .val .non), r.2) else .stuck
        | _ => .stuck))).bind fun r => if f = ("tuple" : Str) then .ok (.val (.tup r.1.1), unb r.1.2 r.2) else if f = ("list" : Str) then .ok (.new (.lst r.1.1), unb r.1.2 r.2) else .stuck) (KE X.K X.mg σ H S As Q) := h
      rw [e, Res.assoc] at h3
      exact h3
    refine liftE.mono (bindE Stp.refl R h2) ?_
    rintro v H1 ⟨rv, env1, S1, As1, B1, st1, R1, ok1, fr1, h1⟩
    dsimp only at h1
    have hn : ∃ n, rv = .val (.int n) := by
      cases rv with
      | val q => cases q with
        | int n => exact ⟨n, rfl⟩
        | _ => exact False.elim h1
      | _ => exact False.elim h1
    obtain ⟨n, rfl⟩ := hn
    dsimp only at h1
    by_cases hz : bnd n ∧ n.toNat ≤ sizeLine
    · rw [if_pos hz] at h1
      obtain rfl : v = .int n := rp_int ok1.1
      refine hg n H1 S1 As1 env1 S As st1 R1 hz ?_
      by_cases ht : f = ("tuple" : Str)
      · rw [if_pos ht]
        have h1 : Post X.K X.mg W H S As (if f = ("tuple" : Str) then .ok (.val (.tup (rangeP 0 n.toNat)), unb (.val .non) env1) else if f = ("list" : Str) then .ok (.new (.lst (rangeP 0 n.toNat)), unb (.val .non) env1) else .stuck) (KE X.K X.mg σ H S As Q) := h1
        rw [if_pos ht] at h1
        exact h1
      · rw [if_neg ht]
        have h1 : Post X.K X.mg W H S As (if f = ("tuple" : Str) then .ok (.val (.tup (rangeP 0 n.toNat)), unb (.val .non) env1) else if f = ("list" : Str) then .ok (.new (.lst (rangeP 0 n.toNat)), unb (.val .non) env1) else .stuck) (KE X.K X.mg σ H S As Q) := h1
        rw [if_neg ht, if_pos (hf.resolve_right ht)] at h1
        exact h1
    · rw [if_neg hz] at h1; exact False.elim h1
  have rg : ∀ n : Int, bnd n ∧ n.toNat ≤ sizeLine → RgOk 0 n := fun n h => ⟨by omega, by omega, h.1.1, h.1.2, by have := h.2; rw [sizeLine_eq] at this; simpa using this⟩
  rcases hf with rfl | rfl
  · refine PE.imp (pe_listRg hc hg hm (prg_1 hg2 hm2 ha hst) rfl) fun σ H Q h => ?_
    refine key h _ fun n H1 S1 As1 env1 S As st1 R1 hz hk => ⟨n, rfl, rg n hz, ?_⟩
    have := rg_fin (i := 0) (n := n.toNat) st1 R1 hk
    unfold rgV
    simpa using this
  · refine PE.imp (pe_tupRg hc hg hm (prg_1 hg2 hm2 ha hst) rfl) fun σ H Q h => ?_
    refine key h _ fun n H1 S1 As1 env1 S As st1 R1 hz hk => ⟨n, rfl, rg n hz, ?_⟩
    have := rg_finT (i := 0) (n := n.toNat) st1 R1 hk
    unfold rgV
    simpa using this
end
end PL
set_option Elab.async false
set_option linter.all false
set_option maxRecDepth 100000
set_option maxHeartbeats 1000000
namespace PL
open PySem PySem.Spec PyProof.Rows L2
/-! ### a < b < c < d -/
def tChain3 (r r' r'' : R2) (ta tb tc td : TE) : TE := fun σ H Q => ta σ H fun x H1 => tb σ H1 fun y H2 => r x y H2 fun z H3 => ∃ k, z = .bl k ∧
  (if k = true then tc σ H3 fun w' H4 => r' y w' H4 fun z2 H5 => ∃ k2, z2 = .bl k2 ∧ (if k2 = true then td σ H5 fun u H6 => r'' w' u H6 Q else Q (.bl false) H5) else Q (.bl false) H3)
section
variable {X : Cx} {W : WX} {a b c d : Expr} {pos : Pos} {ta tb tc td : TE} {fa fb fc fd : Env → Res (RV × Env)}
theorem pe_chain3 {op op' op'' : CmpOp} {r r' r'' : R2} (ho : OpR X (compareOp op) r) (ho' : OpR X (compareOp op') r') (ho'' : OpR X (compareOp op'') r'') (ha : PE X a ta) (hb : PE X b tb) (hc : PE X c tc) (hd : PE X d td)
    (hm : lastMarks [op, op', op''] [b, c, d] = false) : PE X (.Compare a [op, op', op''] [b, c, d] pos) (tChain3 r r' r'' ta tb tc td) := by
  refine ⟨fun pins s σ H Q I h => ?_⟩
  refine Compare_chain (thn (ha.run pins s σ H _ I h) fun v s1 ⟨x, H1, I1, r1, q1⟩ => chain_link (thn (hb.run pins s1 σ H1 _ I1 q1) fun u s2 ⟨y, H2, I2, r2, q2⟩ =>
    thn (ho pins s2 σ H2 x y v u _ I2 r1 r2 q2) fun d1 s3 ⟨z, H3, I3, r3, k, e, q3⟩ => ?_)) hm
  subst e
  cases r3
  refine wpAny_truthy_bool ?_
  cases k with
  | false => exact ite_ff ⟨.bl false, H3, I3, rfl, q3⟩
  | true =>
    refine ite_tt (chain_link (thn (hc.run pins s3 σ H3 _ I3 q3) fun w' s4 ⟨z', H4, I4, r4, q4⟩ => thn (ho' pins s4 σ H4 y z' u w' _ I4 r2 r4 q4) fun d2 s5 ⟨z2, H5, I5, r5, k2, e2, q5⟩ => ?_))
    subst e2
    cases r5
    refine wpAny_truthy_bool ?_
    cases k2 with
    | false => exact ite_ff ⟨.bl false, H5, I5, rfl, q5⟩
    | true => exact ite_tt (chain_last (thn (hd.run pins s5 σ H5 _ I5 q5) fun w3 s6 ⟨z3, H6, I6, r6, q6⟩ => ho'' pins s6 σ H6 z' z3 w' w3 Q I6 r4 r6 q6))
theorem pt_chain3 {op op' op'' : CmpOp} {r r' r'' : R2} (ho : OpR X (compareOp op) r) (ho' : OpR X (compareOp op') r') (ho'' : OpR X (compareOp op'') r'') (ha : PE X a ta) (hb : PE X b tb) (hc : PE X c tc) (hd : PE X d td)
    (hm : lastMarks [op, op', op''] [b, c, d] = false) : PT X (.Compare a [op, op', op''] [b, c, d] pos) (tTest (tChain3 r r' r'' ta tb tc td)) := by
  refine ⟨fun pins s σ H Q I h => ?_⟩
  refine isTrue_chain (thn (ha.run pins s σ H _ I h) fun v s1 ⟨x, H1, I1, r1, q1⟩ => test_link (thn (hb.run pins s1 σ H1 _ I1 q1) fun u s2 ⟨y, H2, I2, r2, q2⟩ =>
    thn (ho pins s2 σ H2 x y v u _ I2 r1 r2 q2) fun d1 s3 ⟨z, H3, I3, r3, k, e, q3⟩ => ?_)) hm
  subst e
  cases r3
  refine wpAny_truthy_bool ?_
  cases k with
  | false =>
    obtain ⟨k', e', q'⟩ := q3
    cases e'
    exact ite_ff ⟨H3, I3, q'⟩
  | true =>
    refine ite_tt (test_link (thn (hc.run pins s3 σ H3 _ I3 q3) fun w' s4 ⟨z', H4, I4, r4, q4⟩ => thn (ho' pins s4 σ H4 y z' u w' _ I4 r2 r4 q4) fun d2 s5 ⟨z2, H5, I5, r5, k2, e2, q5⟩ => ?_))
    subst e2
    cases r5
    refine wpAny_truthy_bool ?_
    cases k2 with
    | false =>
      obtain ⟨k', e', q'⟩ := q5
      cases e'
      exact ite_ff ⟨H5, I5, q'⟩
    | true =>
      refine ite_tt (test_last (thn (hd.run pins s5 σ H5 _ I5 q5) fun w3 s6 ⟨z3, H6, I6, r6, q6⟩ => thn (ho'' pins s6 σ H6 z' z3 w' w3 _ I6 r4 r6 q6) fun d3 s7 ⟨z4, H7, I7, r7, k3, e3, q7⟩ => ?_))
      subst e3
      cases r7
      exact wpAny_truthy_bool ⟨H7, I7, q7⟩
abbrev fChn3 (fa fb fc fd : Env → Res (RV × Env)) (o o' o'' : Cop) : Env → Res (RV × Env) := fun env => (fa env).bind fun r => (fb r.2).bind fun q =>
    (optR (rdH q.2 r.1)).bind fun x => (optR (rdH q.2 q.1)).bind fun y => (optR (copV o x y)).bind fun v => match v with
    | false => .ok (.val (.bl false), unb r.1 (unb q.1 q.2))
    | true => (fc q.2).bind fun w => (optR (rdH w.2 q.1)).bind fun y => (optR (rdH w.2 w.1)).bind fun z =>
      (optR (copV o' y z)).bind fun v => match v with
      | false => .ok (.val (.bl false), unb r.1 (unb q.1 (unb w.1 w.2)))
      | true => (fd w.2).bind fun u => (optR (rdH u.2 w.1)).bind fun y => (optR (rdH u.2 u.1)).bind fun z =>
        (optR (copV o'' y z)).bind fun v => .ok (.val (.bl v), unb r.1 (unb q.1 (unb w.1 (unb u.1 u.2))))
theorem imp_chn3 (hu : X.A.units + 65 < cLine) (o o' o'' : Cop) {K : PySem.W.Frag} {mg : Str → Option Value} {σ : SlotV} {H : Hp} {Q : VK}
    (h : liftE K mg W (fChn3 fa fb fc fd o o' o'') σ H Q) : tChain3 (rC K mg o) (rC K mg o') (rC K mg o'') (liftE K mg W fa) (liftE K mg W fb) (liftE K mg W fc) (liftE K mg W fd) σ H Q := by
  obtain ⟨env, S, As, R, h⟩ := h
  refine liftE.mono (bindE Stp.refl R h) ?_
  rintro v H1 ⟨rv, env1, S1, As1, B1, st1, R1, ok1, fr1, h1⟩
  refine liftE.mono (bindE st1 R1 h1) ?_
  rintro w H2 ⟨rw, env2, S2, As2, B2, st2, R2, ok2, fr2, h2⟩
  obtain ⟨px, e1, h2⟩ := h2.opt
  obtain ⟨py, e2, h2⟩ := h2.opt
  obtain ⟨vr, e3, h2⟩ := h2.opt
  have rs2 := rvsC (S1 := S1) (As1 := As1) ok1 st2 (rvs1 ok2) (nil_fr fr2)
  have fr12 : ∀ b ∈ B1 ++ (B2 ++ []), H b = none ∨ Own As b := fun b hb => by
    rcases List.mem_append.mp hb with hb | hb
    · exact fr1 b hb
    · exact nil_fr (fun b hb => st1.fresh (fr2 b hb)) b hb
  refine ⟨px, py, vr, R2.rdH (ok1.stp st2) e1, R2.rdH ok2 e2, e3, vr, rfl, ?_⟩
  cases vr with
  | false => exact iteF (finUP (rs := [rv, rw]) (st1.trans st2) R2 rs2 fr12 (Rp.bl _) h2)
  | true =>
    refine iteT (liftE.mono (bindE (st1.trans st2) R2 h2) ?_)
    rintro z H3 ⟨rz, env3, S3, As3, B3, st3, R3, ok3, fr3, h3⟩
    obtain ⟨px, e1, h3⟩ := h3.opt
    obtain ⟨py, e2, h3⟩ := h3.opt
    obtain ⟨vr, e3, h3⟩ := h3.opt
    have rs3 := rvsC (S1 := S2) (As1 := As2) ok2 st3 (rvs1 ok3) (nil_fr fr3)
    have f23 : ∀ b ∈ B2 ++ (B3 ++ []), H1 b = none ∨ Own As1 b := fun b hb => by
      rcases List.mem_append.mp hb with hb | hb
      · exact fr2 b hb
      · exact nil_fr (fun b hb => st2.fresh (fr3 b hb)) b hb
    have rs4 := rvsC (S1 := S1) (As1 := As1) ok1 (st2.trans st3) rs3 f23
    have f13 : ∀ b ∈ B1 ++ (B2 ++ (B3 ++ [])), H b = none ∨ Own As b := fun b hb => by
      rcases List.mem_append.mp hb with hb | hb
      · exact fr1 b hb
      · exact st1.fresh (f23 b hb)
    refine ⟨px, py, vr, R3.rdH (ok2.stp st3) e1, R3.rdH ok3 e2, e3, vr, rfl, ?_⟩
    cases vr with
    | false => exact iteF (finUP (rs := [rv, rw, rz]) ((st1.trans st2).trans st3) R3 rs4 f13 (Rp.bl _) h3)
    | true =>
      refine iteT (liftE.mono (bindE ((st1.trans st2).trans st3) R3 h3) ?_)
      rintro t H4 ⟨rt, env4, S4, As4, B4, st4, R4, ok4, fr4, h4⟩
      obtain ⟨px, e1, h4⟩ := h4.opt
      obtain ⟨py, e2, h4⟩ := h4.opt
      obtain ⟨vr, e3, h4⟩ := h4.opt
      have rs5 := rvsC (S1 := S3) (As1 := As3) ok3 st4 (rvs1 ok4) (nil_fr fr4)
      have f34 : ∀ b ∈ B3 ++ (B4 ++ []), H2 b = none ∨ Own As2 b := fun b hb => by
        rcases List.mem_append.mp hb with hb | hb
        · exact fr3 b hb
        · exact nil_fr (fun b hb => st3.fresh (fr4 b hb)) b hb
      have rs6 := rvsC (S1 := S2) (As1 := As2) ok2 (st3.trans st4) rs5 f34
      have f24 : ∀ b ∈ B2 ++ (B3 ++ (B4 ++ [])), H1 b = none ∨ Own As1 b := fun b hb => by
        rcases List.mem_append.mp hb with hb | hb
        · exact fr2 b hb
        · exact st2.fresh (f34 b hb)
      have rs7 := rvsC (S1 := S1) (As1 := As1) ok1 (st2.trans (st3.trans st4)) rs6 f24
      refine ⟨px, py, vr, R4.rdH (ok3.stp st4) e1, R4.rdH ok4 e2, e3, finUP (rs := [rv, rw, rz, rt]) (((st1.trans st2).trans st3).trans st4) R4 rs7 (fun b hb => ?_) (Rp.bl _) h4⟩
      rcases List.mem_append.mp hb with hb | hb
      · exact fr1 b hb
      · exact st1.fresh (f24 b hb)
theorem le_chn3 (hu : X.A.units + 65 < cLine) (o o' o'' : Cop) (ha : LE X W a fa) (hb : LE X W b fb) (hc : LE X W c fc) (hd : LE X W d fd) (hm : lastMarks [cpOf o, cpOf o', cpOf o''] [b, c, d] = false) : LE X W (.Compare a [cpOf o, cpOf o', cpOf o''] [b, c, d] pos) (fChn3 fa fb fc fd o o' o'') :=
  PE.imp (pe_chain3 (op_c (mg := X.mg) hu o) (op_c (mg := X.mg) hu o') (op_c (mg := X.mg) hu o'') ha hb hc hd hm) fun _ _ _ h => imp_chn3 hu o o' o'' h
theorem lt_chn3 (hu : X.A.units + 65 < cLine) (o o' o'' : Cop) (ha : LE X W a fa) (hb : LE X W b fb) (hc : LE X W c fc) (hd : LE X W d fd) (hm : lastMarks [cpOf o, cpOf o', cpOf o''] [b, c, d] = false) : LT X W (.Compare a [cpOf o, cpOf o', cpOf o''] [b, c, d] pos) (truV (fChn3 fa fb fc fd o o' o'')) := by
  refine PT.imp (pt_chain3 (op_c (mg := X.mg) hu o) (op_c (mg := X.mg) hu o') (op_c (mg := X.mg) hu o'') ha hb hc hd hm) fun σ H Q h => imp_chn3 hu o o' o'' (testOf (fun env r e => ?_) h)
  obtain ⟨_, _, e⟩ := Res.bind_ok e
  obtain ⟨_, _, e⟩ := Res.bind_ok e
  obtain ⟨_, _, e⟩ := Res.bind_ok e
  obtain ⟨_, _, e⟩ := Res.bind_ok e
  obtain ⟨k, _, e⟩ := Res.bind_ok e
  cases k with
  | false => cases e; exact ⟨_, rfl⟩
  | true =>
    obtain ⟨_, _, e⟩ := Res.bind_ok e
    obtain ⟨_, _, e⟩ := Res.bind_ok e
    obtain ⟨_, _, e⟩ := Res.bind_ok e
    obtain ⟨k, _, e⟩ := Res.bind_ok e
    cases k with
    | false => cases e; exact ⟨_, rfl⟩
    | true =>
      obtain ⟨_, _, e⟩ := Res.bind_ok e
      obtain ⟨_, _, e⟩ := Res.bind_ok e
      obtain ⟨_, _, e⟩ := Res.bind_ok e
      obtain ⟨k, _, e⟩ := Res.bind_ok e
      cases e
      exact ⟨_, rfl⟩
end
end PL
set_option Elab.async false
set_option linter.all false
set_option maxRecDepth 100000
set_option maxHeartbeats 1000000
namespace L2
open PySem PySem.Spec PyProof.Rows
/-! ### dict comprehensions with two clauses, keys of either kind (printed by gen_dc2.py) -/
theorem compTurn2D_out (kx vx t0 i0 t1 i1 : Expr) (ifs0 ifs1 : List Expr) (scope : Scope) (pos : Pos) (it acc : Value) (env : Env) :
    compTurn (.DictComp kx vx [⟨t0, i0, ifs0, 0⟩, ⟨t1, i1, ifs1, 0⟩] scope pos) 0 it acc env = (do
      standAt i0.pos
      match ← pyNext it with
      | none => pure (.done .next)
      | some v =>
        letOwnedTupleGo t0 it v
        assign t0 env v
        let mut ok := true
        for c in ifs0 do
          if ok then ok ← isTrue c env (eval c env)
        if ok then
          let x ← eval i1 env
          standAt i1.pos
          let x ← foldedSetIterable i1 env x
          let _ ← runOwn (.compStart (.DictComp kx vx [⟨t0, i0, ifs0, 0⟩, ⟨t1, i1, ifs1, 0⟩] scope pos) 1 (← holding [x] (pyIter x)) acc env) env
        again (.compLoop (.DictComp kx vx [⟨t0, i0, ifs0, 0⟩, ⟨t1, i1, ifs1, 0⟩] scope pos) 0 it acc env)) := by rfl
theorem compTurn2D_in (kx vx t0 i0 t1 i1 : Expr) (ifs0 ifs1 : List Expr) (scope : Scope) (pos : Pos) (it : Value) (D : Addr) (env : Env) :
    compTurn (.DictComp kx vx [⟨t0, i0, ifs0, 0⟩, ⟨t1, i1, ifs1, 0⟩] scope pos) 1 it (.ref D) env = (do
      standAt i1.pos
      match ← pyNext it with
      | none => pure (.done .next)
      | some v =>
        letOwnedTupleGo t1 it v
        assign t1 env v
        let mut ok := true
        for c in ifs1 do
          if ok then ok ← isTrue c env (eval c env)
        if ok then
          (do
            let kv ← eval kx env
            let vv ← holding [kv] (eval vx env)
            standAt { kx.pos with endLine := vx.pos.endLine, endCol := vx.pos.endCol }
            holding [kv, vv] (dictSet D kv vv))
        again (.compLoop (.DictComp kx vx [⟨t0, i0, ifs0, 0⟩, ⟨t1, i1, ifs1, 0⟩] scope pos) 1 it (.ref D) env)) := by rfl

section
variable {prog : Program} {w : World} {A : Around} {R : Result → Shared → Prop} {s : Shared} {kx vx t0 i0 t1 i1 : Expr} {ifs0 ifs1 : List Expr} {scope : Scope} {pos : Pos} {it acc : Value} {env : Env}
/-- the loop of the first clause -/
theorem compLoop2D_out (hs : ∀ x, foldedSetIterable i1 env x = pure x) (I : Nat → Shared → Prop)
    (turn : ∀ n s, I n s → wpAny (model prog w) A (pyNext it) (fun r s₁ => match r with
      | none => R (.ok .next) s₁
      | some v => wpAny (model prog w) A (letOwnedTupleGo t0 it v) (fun _ s₁' => wpAny (model prog w) A (assign t0 env v) (fun _ s₂ =>
          wpAny (model prog w) A (forIn ifs0 true fun c r => if r = true then do let ok ← isTrue c env (eval c env); pure (ForInStep.yield ok) else pure (ForInStep.yield r)) (fun ok s₃ =>
            if ok = true then wpAny (model prog w) A (eval i1 env) (fun x s₄ => wpAny (model prog w) A (pyIter x) (fun it1 s₅ =>
              codeAny (model prog w) A (.compStart (.DictComp kx vx [⟨t0, i0, ifs0, 0⟩, ⟨t1, i1, ifs1, 0⟩] scope pos) 1 it1 acc env) (fun r s' => match r with
                | .ok _ => ∃ m, m < n ∧ I m s'
                | .error _ => False) s₅) (notedBy (model prog w) A env fun e s' => R (.error e) s') s₄) (notedBy (model prog w) A env fun e s' => R (.error e) s') s₃
            else ∃ m, m < n ∧ I m s₃) (notedBy (model prog w) A env fun e s' => R (.error e) s') s₂) (notedBy (model prog w) A env fun e s' => R (.error e) s') s₁') (notedBy (model prog w) A env fun e s' => R (.error e) s') s₁) (notedBy (model prog w) A env fun e s' => R (.error e) s') s)
    (n : Nat) (h : I n s) :
    codeAny (model prog w) A (.compLoop (.DictComp kx vx [⟨t0, i0, ifs0, 0⟩, ⟨t1, i1, ifs1, 0⟩] scope pos) 0 it acc env) R s := by
  refine codeAny_loop rfl I (fun n s hI => ?_) n h
  show wpAny _ A ((compTurn (.DictComp kx vx [⟨t0, i0, ifs0, 0⟩, ⟨t1, i1, ifs1, 0⟩] scope pos) 0 it acc env).onRaise (fun x => do noteFrame x env; theTreesLotGoes x)) _ _ s
  refine wpAny_noted ?_
  rw [compTurn2D_out]
  refine wpAny_bind (wpAny_standAt (wpAny_bind (wpAny_mono (turn n s hI) (fun r s₁ h₁ => ?_) fun _ _ h' => h')))
  cases r with
  | none => exact wpAny_pure h₁
  | some v =>
    refine wpAny_bind (wpAny_mono h₁ (fun _ s₁' h₁' => ?_) fun _ _ h' => h')
    refine wpAny_bind (wpAny_mono h₁' (fun _ s₂ h₂ => wpAny_bind (wpAny_mono h₂ (fun ok s₃ h₃ => ?_) fun _ _ h' => h')) fun _ _ h' => h')
    cases ok with
    | false => exact wpAny_pure ⟨rfl, h₃⟩
    | true =>
      refine wpAny_bind (wpAny_mono h₃ (fun x s₄ h₄ => ?_) fun _ _ h' => h')
      refine wpAny_bind (wpAny_standAt (wpAny_bind (wpAny_of_eq (hs x) (wpAny_bind (wpAny_holding (wpAny_mono h₄ (fun it1 s₅ h₅ => ?_) fun _ _ h' => h'))))))
      refine wpAny_bind (wpAny_runOwn ?_)
      rw [Around.mark_none]
      refine codeAny_mono h₅ fun r s' hr => ?_
      cases r with
      | ok f =>
        first
          | exact wpAny_pure ⟨rfl, hr⟩
          | exact wpAny_bind (wpAny_pure (wpAny_pure ⟨rfl, hr⟩))
      | error e => exact hr.elim
/-- the loop of the second -/
theorem compLoop2D_in {D : Addr} (I : Nat → Shared → Prop)
    (turn : ∀ n s, I n s → wpAny (model prog w) A (pyNext it) (fun r s₁ => match r with
      | none => R (.ok .next) s₁
      | some v => wpAny (model prog w) A (letOwnedTupleGo t1 it v) (fun _ s₁' => wpAny (model prog w) A (assign t1 env v) (fun _ s₂ =>
          wpAny (model prog w) A (forIn ifs1 true fun c r => if r = true then do let ok ← isTrue c env (eval c env); pure (ForInStep.yield ok) else pure (ForInStep.yield r)) (fun ok s₃ =>
            if ok = true then wpAny (model prog w) A (eval kx env) (fun kv s₄ => wpAny (model prog w) A (eval vx env) (fun vv s₅ =>
              wpAny (model prog w) A (dictSet D kv vv) (fun _ s₆ => ∃ m, m < n ∧ I m s₆) (notedBy (model prog w) A env fun e s' => R (.error e) s') s₅) (notedBy (model prog w) A env fun e s' => R (.error e) s') s₄) (notedBy (model prog w) A env fun e s' => R (.error e) s') s₃
            else ∃ m, m < n ∧ I m s₃) (notedBy (model prog w) A env fun e s' => R (.error e) s') s₂) (notedBy (model prog w) A env fun e s' => R (.error e) s') s₁') (notedBy (model prog w) A env fun e s' => R (.error e) s') s₁) (notedBy (model prog w) A env fun e s' => R (.error e) s') s)
    (n : Nat) (h : I n s) :
    codeAny (model prog w) A (.compLoop (.DictComp kx vx [⟨t0, i0, ifs0, 0⟩, ⟨t1, i1, ifs1, 0⟩] scope pos) 1 it (.ref D) env) R s := by
  refine codeAny_loop rfl I (fun n s hI => ?_) n h
  show wpAny _ A ((compTurn (.DictComp kx vx [⟨t0, i0, ifs0, 0⟩, ⟨t1, i1, ifs1, 0⟩] scope pos) 1 it (.ref D) env).onRaise (fun x => do noteFrame x env; theTreesLotGoes x)) _ _ s
  refine wpAny_noted ?_
  rw [compTurn2D_in]
  refine wpAny_bind (wpAny_standAt (wpAny_bind (wpAny_mono (turn n s hI) (fun r s₁ h₁ => ?_) fun _ _ h' => h')))
  cases r with
  | none => exact wpAny_pure h₁
  | some v =>
    refine wpAny_bind (wpAny_mono h₁ (fun _ s₁' h₁' => ?_) fun _ _ h' => h')
    refine wpAny_bind (wpAny_mono h₁' (fun _ s₂ h₂ => wpAny_bind (wpAny_mono h₂ (fun ok s₃ h₃ => ?_) fun _ _ h' => h')) fun _ _ h' => h')
    cases ok with
    | false => exact wpAny_pure ⟨rfl, h₃⟩
    | true =>
      exact wpAny_bind (wpAny_bind (wpAny_mono h₃ (fun kv s₄ h₄ => wpAny_bind (wpAny_holding (wpAny_mono h₄ (fun vv s₅ h₅ => wpAny_bind (wpAny_standAt (wpAny_holding (wpAny_mono h₅ (fun _ s₆ h₆ => wpAny_pure ⟨rfl, h₆⟩) fun _ _ h' => h')))) fun _ _ h' => h'))) fun _ _ h' => h'))
/-- the second clause's start -/
theorem compStart1D_ok (h0 : codeAny (model prog w) A (.compLoop (.DictComp kx vx [⟨t0, i0, ifs0, 0⟩, ⟨t1, i1, ifs1, 0⟩] scope pos) 1 it acc env) R s)
    (h : wpAny (model prog w) A (pyIter it) (fun it' s' => codeAny (model prog w) A (.compLoop (.DictComp kx vx [⟨t0, i0, ifs0, 0⟩, ⟨t1, i1, ifs1, 0⟩] scope pos) 1 it' acc env) R s')
      (notedBy (model prog w) A env fun x s' => R (.error x) s') s) :
    codeAny (model prog w) A (.compStart (.DictComp kx vx [⟨t0, i0, ifs0, 0⟩, ⟨t1, i1, ifs1, 0⟩] scope pos) 1 it acc env) R s := by
  refine codeAny_of_tree ?_
  show wpAny _ _ ((compStart (.DictComp kx vx [⟨t0, i0, ifs0, 0⟩, ⟨t1, i1, ifs1, 0⟩] scope pos) 1 it acc env).onRaise (fun x => do noteFrame x env; standAt theWindowsPlace)) _ _ s
  refine wpAny_notedAt ?_
  unfold compStart
  show wpAny _ _ (ask >>= _) _ _ s
  refine wpAny_bind (wpAny_askSetting (wpAny_ite ?_))
  split
  · first
      | exact wpAny_bind (wpAny_pure (wpAny_pure (And.intro rfl h0)))
      | exact wpAny_pure (And.intro rfl h0)
  · first
      | exact wpAny_bind (wpAny_rule (wpAny_bind (wpAny_standAt (wpAny_bind (wpAny_mono h (fun it' s' h' => wpAny_pure (And.intro rfl h')) fun _ _ x => x)))))
      | (refine wpAny_bind (wpAny_rule ?_); show wpAny _ _ (standAt i1.pos >>= _) _ _ s; exact wpAny_bind (wpAny_standAt (wpAny_bind (wpAny_mono h (fun it' s' h' => wpAny_pure (And.intro rfl h')) fun _ _ x => x))))
end

section
variable {X : Cx} {b0 : Bool}
/-- [elt for tg in iter if .. for tg1 in iter1 if ..]: behind the first clause's store and tests the second source's own loop, from which Nx is reached. vs: the block's names; vs1: those of the second target -/
def tDc2 (b0 : Bool) (wi : TI) (g : TG) (tt : TT) (wi1 : TI) (g1 : TG) (tt1 : TT) (tk tv : TE) (vs vs1 : List Nat) : TE := fun σ H Q => wi σ H fun J H1 => ∀ D, H1 D = none → ∃ W : Nat → Nat → Hp → Prop, (∃ m, W 0 m (upd H1 D (oE b0))) ∧ ∀ i m H, W i m H →
  (J.stop i H ∧ Q (.ref D) H) ∨ (J.go i H ∧ ∃ Nx : Hp → Prop, (∀ H', Nx H' → ∃ m', m' < m ∧ W (i + 1) m' H') ∧ ∀ x H', J.yld i H x H' → g x (wipe σ vs) H' fun σ2 H2 => wipe σ2 vs = wipe σ vs ∧ tt σ2 H2 fun b H3 =>
    if b = true then wi1 σ2 H3 fun J1 H4 => ∃ W1 : Nat → Nat → Hp → Prop, (∃ m, W1 0 m H4) ∧ ∀ j k H, W1 j k H →
      (J1.stop j H ∧ Nx H) ∨ (J1.go j H ∧ ∃ Nx1 : Hp → Prop, (∀ H', Nx1 H' → ∃ k', k' < k ∧ W1 (j + 1) k' H') ∧ ∀ x H', J1.yld j H x H' → g1 x (wipe σ2 vs1) H' fun σ3 H5 => wipe σ3 vs1 = wipe σ2 vs1 ∧ tt1 σ3 H5 fun b H6 =>
        if b = true then tk σ3 H6 fun y H7 => tv σ3 H7 fun z H8 => ∃ H9, DPut H8 D y z H9 ∧ Nx1 H9 else Nx1 H6)
    else Nx H3)
theorem dc2_core {pins : List (Addr × Obj)} {s : Shared} {σ : St} {H : Hp} {Q : VK} {kx vx tg iter tg1 iter1 : Expr} {ifs ifs1 : List Expr} {scope : Scope} {own : List (Str × Nat)} {vs1 : List Nat} {pos pos' : Pos} {wi wi1 : TI} {g g1 : TG} {tt tt1 : TT} {tk tv : TE} {use : Option (Value → Sem Unit)} {Qf : Value → Shared → Prop}
    (hu : X.A.units + 1 < cLine) (hc : X.calm = true) (hN : X.N.Nodup) (I : Inv X pins σ H s) (hi : PI X tg iter wi) (ok : BlkOk X.N X.env.scope scope own) (hv : ∀ i ∈ vs1, i ∈ own.map (·.2))
    (hg : ∀ (s : Shared) (H : Hp) (C : Addr) (cl : List (Str × Addr)) (fp : List Addr), PG (X.blk s H scope (compEnvC scope cl C X.env) fp) tg g) (ht : ∀ (s : Shared) (H : Hp) (C : Addr) (cl : List (Str × Addr)) (fp : List Addr), PTs (X.blk s H scope (compEnvC scope cl C X.env) fp) ifs tt)
    (he : ∀ (s : Shared) (H : Hp) (C : Addr) (cl : List (Str × Addr)) (fp : List Addr), PE (X.blk s H scope (compEnvC scope cl C X.env) fp) kx tk) (he2 : ∀ (s : Shared) (H : Hp) (C : Addr) (cl : List (Str × Addr)) (fp : List Addr), PE (X.blk s H scope (compEnvC scope cl C X.env) fp) vx tv) (hs : ∀ x, foldedSetIterable iter X.env x = pure x)
    (hi1 : ∀ (s : Shared) (H : Hp) (C : Addr) (cl : List (Str × Addr)) (fp : List Addr), PI (X.blk s H scope (compEnvC scope cl C X.env) fp) tg1 iter1 wi1)
    (hg1 : ∀ (s : Shared) (H : Hp) (C : Addr) (cl : List (Str × Addr)) (fp : List Addr), PG (X.blk s H scope (compEnvC scope cl C X.env) fp) tg1 g1)
    (ht1 : ∀ (s : Shared) (H : Hp) (C : Addr) (cl : List (Str × Addr)) (fp : List Addr), PTs (X.blk s H scope (compEnvC scope cl C X.env) fp) ifs1 tt1)
    (hs1 : ∀ env x, foldedSetIterable iter1 env x = pure x)
    (h : tDc2 b0 wi g tt wi1 g1 tt1 tk tv (own.map (·.2)) vs1 σ H Q)
    (hRR : ∀ D C s' m H', Inv X pins σ H' s' → Q (.ref D) H' → s'.heap.Ns C m → FpOk X pins H' C → compPost (model X.prog X.w) X.A X.xe use Qf (.ref D) C (.ok .next) s') :
    wpAny (model X.prog X.w) X.A (comprehension (.DictComp kx vx [⟨tg, iter, ifs, 0⟩, ⟨tg1, iter1, ifs1, 0⟩] scope pos) scope X.env pos' newDict false (eval iter X.env) use) Qf X.xe s := by
  have hfree : ∀ y ∈ scope.names, y.2 = .free → ∃ c, X.env.cells.lookup y.1 = some c := fun y hy e => by
    rcases ok.free y hy e with k | k
    · exact I.ok.has _ (.inl k)
    · exact I.ok.has _ (.inr k)
  refine wpAny_comprehension_free (use := use) rfl hs (closure_ok hfree) ok.kind (fun y hy e => by rw [ok.uniq y hy, e])
    (thn (hi.run pins s σ H _ I h) fun xv s1 hx => thn hx fun itv s2 h2 => ?_)
  obtain ⟨it, fp, tn, J, H2, e, I2, T, st2, f2, q⟩ := h2
  subst e
  refine wpAny_newObj_type (newEnv_comp ?_)
  generalize hD : s2.heap.objs.size = D
  have hDn : H2 D = none := I2.hok.fresh (Nat.le_of_eq hD)
  obtain ⟨W, ⟨m0, w0⟩, turn⟩ := q D hDn
  -- the new list
  generalize hs3 : ({ s2 with heap := s2.heap.push { cls := .type "dict", data := .dict #[] } } : Shared) = s3
  have I3 : Inv X pins σ (upd H2 D (oE b0)) s3 := by
    rw [← hs3]
    refine I2.laid (t' := s2.toks) (fun b o e => Heap.get?_push_of_some _ e) (Nat.le_of_eq hD) ?_
    rw [← hD]
    exact oE_ok s2.heap I2.big
  have h3 : s3.heap = s2.heap.push { cls := .type "dict", data := .dict #[] } := by rw [← hs3]
  have sz : ∀ b ∈ fp, b < s2.heap.objs.size := fun b hb => by
    obtain ⟨o, e, _⟩ := T.obj _ _ st2 b hb
    exact Heap.lt_size e
  have f3 : ∀ b ∈ fp, FpOk X pins (upd H2 D (oE b0)) b ∧ b < s3.heap.objs.size := fun b hb => by
    have hlt := sz b hb
    refine ⟨⟨?_, (f2 b hb).2⟩, by rw [h3, Heap.size_push]; exact Nat.lt_succ_of_lt hlt⟩
    rw [upd_ne (by rw [← hD]; exact Nat.ne_of_lt hlt)]
    exact (f2 b hb).1
  have st3 : tn 0 s3.heap := T.keep _ _ _ st2 fun b _ o e => by rw [h3]; exact Heap.get?_push_of_some _ e
  have I4 := block_start I3 ok hN f3
  have pg := hg s3 (upd H2 D (oE b0)) s3.heap.objs.size (cellsFrom (s3.heap.objs.size + 1) scope.names (cloFrom X.env.cells scope.names [])) fp
  have pt := ht s3 (upd H2 D (oE b0)) s3.heap.objs.size (cellsFrom (s3.heap.objs.size + 1) scope.names (cloFrom X.env.cells scope.names [])) fp
  have pe := he s3 (upd H2 D (oE b0)) s3.heap.objs.size (cellsFrom (s3.heap.objs.size + 1) scope.names (cloFrom X.env.cells scope.names [])) fp
  have pe2 := he2 s3 (upd H2 D (oE b0)) s3.heap.objs.size (cellsFrom (s3.heap.objs.size + 1) scope.names (cloFrom X.env.cells scope.names [])) fp
  have pi1 := hi1 s3 (upd H2 D (oE b0)) s3.heap.objs.size (cellsFrom (s3.heap.objs.size + 1) scope.names (cloFrom X.env.cells scope.names [])) fp
  have pg1 := hg1 s3 (upd H2 D (oE b0)) s3.heap.objs.size (cellsFrom (s3.heap.objs.size + 1) scope.names (cloFrom X.env.cells scope.names [])) fp
  have pt1 := ht1 s3 (upd H2 D (oE b0)) s3.heap.objs.size (cellsFrom (s3.heap.objs.size + 1) scope.names (cloFrom X.env.cells scope.names [])) fp
  show codeAny _ _ (.compStart (.DictComp kx vx [⟨tg, iter, ifs, 0⟩, ⟨tg1, iter1, ifs1, 0⟩] scope pos) 0 (.ref it) (.ref D) (compEnvC scope (cellsFrom (s3.heap.objs.size + 1) scope.names (cloFrom X.env.cells scope.names [])) s3.heap.objs.size X.env)) (compPost (model X.prog X.w) X.A X.xe use Qf (.ref D) s3.heap.objs.size) { s3 with heap := pushCells (s3.heap.push { cls := .type "dict", data := .dict #[] }) scope.names }
  have nfp : ∀ b ∈ fp, (upd H2 D (oE b0)) b = none := fun b hb => (f3 b hb).1.1
  generalize hce : compEnvC scope (cellsFrom (s3.heap.objs.size + 1) scope.names (cloFrom X.env.cells scope.names [])) s3.heap.objs.size X.env = ce at I4 pg pt pe pe2 pi1 pg1 pt1 ⊢
  have cL : ce.locals = s3.heap.objs.size := by subst hce; rfl
  generalize hH3 : upd H2 D (oE b0) = H3 at I3 I4 pg pt pe pe2 pi1 pg1 pt1 w0 nfp f3
  generalize hs4 : ({ s3 with heap := pushCells (s3.heap.push { cls := .type "dict", data := .dict #[] }) scope.names } : Shared) = s4 at I4 ⊢
  have st4 : tn 0 s4.heap := T.keep _ _ _ st3 fun b _ o e => by rw [← hs4]; exact pushCells_keeps _ _ _ _ (Heap.get?_push_of_some _ e)
  have stat : ∀ {σ' : St} {H' : Hp} {s' : Shared}, Inv (X.blk s3 H3 scope ce fp) [] σ' H' s' → (∀ b ∈ fp, H' b = none) → ∀ b ∈ fp, FpOk (X.blk s3 H3 scope ce fp) [] H' b := fun {σ' H' s'} I' hn b hb =>
    ⟨hn b hb, (I'.ok.exf b hb).1, I'.ok.exfs b hb, .inl hb, fun x c e => (I'.ok.exf b hb).2 x c e, fun p hp => absurd (show p ∈ ([] : List (Addr × Obj)) ++ [] from hp) (by simp)⟩
  have loop : codeAny (model X.prog X.w) X.A (.compLoop (.DictComp kx vx [⟨tg, iter, ifs, 0⟩, ⟨tg1, iter1, ifs1, 0⟩] scope pos) 0 (.ref it) (.ref D) ce) (compPost (model X.prog X.w) X.A X.xe use Qf (.ref D) s3.heap.objs.size) s4 := by
    refine compLoop2D_out (hs1 ce) (fun n s' => ∃ i H', Inv (X.blk s3 H3 scope ce fp) [] (wipe σ (own.map (·.2))) H' s' ∧ tn i s'.heap ∧ (∀ b ∈ fp, H' b = none) ∧ W i n H') ?_ m0 ⟨0, H3, I4, st4, nfp, w0⟩
    rintro n s5 ⟨i, H5, I5, st5, n5, w5⟩
    rcases turn i n H5 w5 with ⟨stop, qq⟩ | ⟨go, Nx, hNx, step⟩
    · have td := T.done (X.blk s3 H3 scope ce fp) rfl rfl rfl hc i [] s5 _ H5 (fun _ _ => False) I5 (stat I5 n5) st5 stop
      refine thnF td fun r s6 ⟨hr, I6⟩ => ?_
      subst hr
      -- back in the def's context
      have I7 : Inv X pins σ H5 s6 := I3.call' (ch := fp) I6.os I6.base I6.hok I6.bare fun b hb => ⟨(f3 b hb).1.2.2.2.1, (f3 b hb).1.2.1, (f3 b hb).1.2.2.2.2.1, (f3 b hb).1.2.2.2.2.2⟩
      have nC : H5 s3.heap.objs.size = none := by
        have z : H5 ce.locals = none := I6.free
        rw [cL] at z
        exact z
      obtain ⟨m, hn, _⟩ := I6.loc
      have hn : s6.heap.Ns ce.locals m := hn
      rw [cL] at hn
      exact hRR D s3.heap.objs.size s6 m H5 I7 qq hn (I3.fpOk (Nat.le_refl _) nC)
    · have ti := T.item (X.blk s3 H3 scope ce fp) rfl rfl rfl hc i [] s5 _ H5 (fun _ _ => False) I5 (stat I5 n5) st5 go
      refine thnF ti fun r s6 ⟨u, hr, h6⟩ => ?_
      subst hr
      refine thnF h6 fun _ s7 ⟨x, H7, I7, r7, y7, st7, n7⟩ => ?_
      have I7' := I7.pinned (stat I7 n7) (T.obj _ _ st7)
      refine thnF (pg.run _ s7 _ H7 x u _ I7' r7 (step x H7 y7)) fun _ s8 ⟨σ8, H8, I8, hw8, q8⟩ => ?_
      refine thnF (pt.run _ s8 σ8 H8 _ I8 q8) fun b s9 ⟨H9, I9, q9⟩ => ?_
      -- the turn's end, from any slots that know what the block knew at its start
      have fin : ∀ {σ9 : St} {s' : Shared} {H' : Hp}, Inv (X.blk s3 H3 scope ce fp) ([] ++ pinsAt fp s7.heap) σ9 H' s' → (wipe σ (own.map (·.2))).length = σ9.length → (∀ (j : Nat) v, (wipe σ (own.map (·.2)))[j]? = some (some v) → σ9[j]? = some (some v)) → Nx H' →
          ∃ m, m < n ∧ ∃ i H', Inv (X.blk s3 H3 scope ce fp) [] (wipe σ (own.map (·.2))) H' s' ∧ tn i s'.heap ∧ (∀ b ∈ fp, H' b = none) ∧ W i m H' := fun {σ9 s' H'} I' hl hk nx => by
        obtain ⟨m', hm, w'⟩ := hNx H' nx
        have pin' : ∀ b ∈ fp, ∀ o, s7.heap.get? b = some o → s'.heap.get? b = some o ∧ H' b = none := fun b hb o e =>
          let z := I'.pin (b, o) (List.mem_append_right _ (List.mem_append_right _ (mem_pinsAt hb e)))
          ⟨z.1, z.2.1⟩
        refine ⟨m', hm, i + 1, H', (I'.unpinned (pins := [])).weak hl hk, T.keep _ _ _ st7 fun b hb o e => (pin' b hb o e).1, fun b hb => ?_, w'⟩
        obtain ⟨o, e, _⟩ := T.obj _ _ st7 b hb
        exact (pin' b hb o e).2
      have hl8 : (wipe σ (own.map (·.2))).length = σ8.length := by rw [← hw8, wipe_length]
      have hk8 : ∀ (j : Nat) v, (wipe σ (own.map (·.2)))[j]? = some (some v) → σ8[j]? = some (some v) := fun j v e => by
        rw [← hw8] at e
        exact (wipe_some e).1
      have hk9 : ∀ (j : Nat) v, (wipe σ (own.map (·.2)))[j]? = some (some v) → (wipe σ8 vs1)[j]? = some (some v) := fun j v e => by
        rw [← hw8] at e
        obtain ⟨e1, e2⟩ := wipe_some e
        rw [wipe_out fun z => e2 (hv j z)]
        exact e1
      cases b with
      | false =>
        simp only [Bool.false_eq_true, if_false] at q9 ⊢
        exact fin I9 hl8 hk8 q9
      | true =>
        simp only [if_true] at q9 ⊢
        refine thnF (pi1.run _ s9 σ8 H9 _ I9 q9) fun xv s10 hx => thnF hx fun itv s11 h11 => ?_
        obtain ⟨it1, fp1, tn1, J1, H11, e1, I11, T1, st11, f11, W1, ⟨m1, w1⟩, turn1⟩ := h11
        subst e1
        -- the inner loop
        have stat1 : ∀ {H' : Hp}, (∀ b ∈ fp1, H' b = none) → ∀ b ∈ fp1, FpOk (X.blk s3 H3 scope ce fp) ([] ++ pinsAt fp s7.heap) H' b := fun hn b hb => ⟨hn b hb, (f11 b hb).2⟩
        have loop1 : codeAny (model X.prog X.w) X.A (.compLoop (.DictComp kx vx [⟨tg, iter, ifs, 0⟩, ⟨tg1, iter1, ifs1, 0⟩] scope pos) 1 (.ref it1) (.ref D) ce)
            (fun r s' => match r with
              | .ok _ => ∃ m, m < n ∧ ∃ i H', Inv (X.blk s3 H3 scope ce fp) [] (wipe σ (own.map (·.2))) H' s' ∧ tn i s'.heap ∧ (∀ b ∈ fp, H' b = none) ∧ W i m H'
              | .error _ => False) s11 := by
          refine compLoop2D_in (fun k s' => ∃ j H', Inv (X.blk s3 H3 scope ce fp) ([] ++ pinsAt fp s7.heap) (wipe σ8 vs1) H' s' ∧ tn1 j s'.heap ∧ (∀ b ∈ fp1, H' b = none) ∧ W1 j k H') ?_ m1 ⟨0, H11, I11.weak (wipe_length _ _) (fun j v e => (wipe_some e).1), st11, fun b hb => (f11 b hb).1, w1⟩
          rintro k s12 ⟨j, H12, I12, st12, n12, w12⟩
          rcases turn1 j k H12 w12 with ⟨stop1, nx1⟩ | ⟨go1, Nx1, hNx1, step1⟩
          · refine thnF (T1.done (X.blk s3 H3 scope ce fp) rfl rfl rfl hc j _ s12 (wipe σ8 vs1) H12 (fun _ _ => False) I12 (stat1 n12) st12 stop1) fun r s13 ⟨hr, I13⟩ => ?_
            subst hr
            exact fin I13 (hl8.trans (wipe_length σ8 vs1).symm) hk9 nx1
          · refine thnF (T1.item (X.blk s3 H3 scope ce fp) rfl rfl rfl hc j _ s12 (wipe σ8 vs1) H12 (fun _ _ => False) I12 (stat1 n12) st12 go1) fun r s13 ⟨u1, hr, h13⟩ => ?_
            subst hr
            refine thnF h13 fun _ s14 ⟨x1, H14, I14, r14, y14, st14, n14⟩ => ?_
            have I14' := I14.pinned (stat1 n14) (T1.obj _ _ st14)
            refine thnF (pg1.run _ s14 (wipe σ8 vs1) H14 x1 u1 _ I14' r14 (step1 x1 H14 y14)) fun _ s15 ⟨σ15, H15, I15, hw15, q15⟩ => ?_
            refine thnF (pt1.run _ s15 σ15 H15 _ I15 q15) fun b1 s16 ⟨H16, I16, q16⟩ => ?_
            have fin1 : ∀ {s' : Shared} {H' : Hp}, Inv (X.blk s3 H3 scope ce fp) (([] ++ pinsAt fp s7.heap) ++ pinsAt fp1 s14.heap) σ15 H' s' → Nx1 H' → ∃ m, m < k ∧ ∃ j H', Inv (X.blk s3 H3 scope ce fp) ([] ++ pinsAt fp s7.heap) (wipe σ8 vs1) H' s' ∧ tn1 j s'.heap ∧ (∀ b ∈ fp1, H' b = none) ∧ W1 j m H' := fun {s' H'} I' nx => by
              obtain ⟨m', hm, w'⟩ := hNx1 H' nx
              have pin' : ∀ b ∈ fp1, ∀ o, s14.heap.get? b = some o → s'.heap.get? b = some o ∧ H' b = none := fun b hb o e =>
                let z := I'.pin (b, o) (List.mem_append_right _ (List.mem_append_right _ (mem_pinsAt hb e)))
                ⟨z.1, z.2.1⟩
              refine ⟨m', hm, j + 1, H', I'.unpinned.weak (by rw [← hw15, wipe_length]) (fun j v e => by rw [← hw15] at e; exact (wipe_some e).1), T1.keep _ _ _ st14 fun b hb o e => (pin' b hb o e).1, fun b hb => ?_, w'⟩
              obtain ⟨o, e, _⟩ := T1.obj _ _ st14 b hb
              exact (pin' b hb o e).2
            cases b1 with
            | false =>
              simp only [Bool.false_eq_true, if_false] at q16 ⊢
              exact fin1 I16 q16
            | true =>
              simp only [if_true] at q16 ⊢
              refine thnF (pe.run _ s16 σ15 H16 _ I16 q16) fun z s17 ⟨yk, H17, I17, r17, q17⟩ => ?_
              refine thnF (pe2.run _ s17 σ15 H17 _ I17 q17) fun z2 s18 ⟨yv, H18, I18, r18, H19, dp, nx⟩ => ?_
              exact d_dictSetA (X := X.blk s3 H3 scope ce fp) hu I18 dp r17 r18 fun s19 I19 => fin1 I19 nx
        exact compStart1D_ok loop1 (T1.self X.A 0 _ _ _ st11 loop1)
  exact codeAny_compStart_dict loop (T.self X.A 0 _ _ _ st4 loop)
/-- as a value -/
theorem pe_dc2 {kx vx tg iter tg1 iter1 : Expr} {ifs ifs1 : List Expr} {scope : Scope} {own : List (Str × Nat)} {vs1 : List Nat} {pos : Pos} {wi wi1 : TI} {g g1 : TG} {tt tt1 : TT} {tk tv : TE} (hu : X.A.units + 1 < cLine) (hc : X.calm = true) (hN : X.N.Nodup) (hi : PI X tg iter wi) (ok : BlkOk X.N X.env.scope scope own) (hv : ∀ i ∈ vs1, i ∈ own.map (·.2))
    (hg : ∀ (s : Shared) (H : Hp) (C : Addr) (cl : List (Str × Addr)) (fp : List Addr), PG (X.blk s H scope (compEnvC scope cl C X.env) fp) tg g) (ht : ∀ (s : Shared) (H : Hp) (C : Addr) (cl : List (Str × Addr)) (fp : List Addr), PTs (X.blk s H scope (compEnvC scope cl C X.env) fp) ifs tt)
    (hi1 : ∀ (s : Shared) (H : Hp) (C : Addr) (cl : List (Str × Addr)) (fp : List Addr), PI (X.blk s H scope (compEnvC scope cl C X.env) fp) tg1 iter1 wi1)
    (hg1 : ∀ (s : Shared) (H : Hp) (C : Addr) (cl : List (Str × Addr)) (fp : List Addr), PG (X.blk s H scope (compEnvC scope cl C X.env) fp) tg1 g1) (ht1 : ∀ (s : Shared) (H : Hp) (C : Addr) (cl : List (Str × Addr)) (fp : List Addr), PTs (X.blk s H scope (compEnvC scope cl C X.env) fp) ifs1 tt1)
    (he : ∀ (s : Shared) (H : Hp) (C : Addr) (cl : List (Str × Addr)) (fp : List Addr), PE (X.blk s H scope (compEnvC scope cl C X.env) fp) kx tk) (he2 : ∀ (s : Shared) (H : Hp) (C : Addr) (cl : List (Str × Addr)) (fp : List Addr), PE (X.blk s H scope (compEnvC scope cl C X.env) fp) vx tv) (hs : ∀ x, foldedSetIterable iter X.env x = pure x := by intro _; rfl) (hs1 : ∀ env x, foldedSetIterable iter1 env x = pure x := by intro _ _; rfl) :
    PE X (.DictComp kx vx [⟨tg, iter, ifs, 0⟩, ⟨tg1, iter1, ifs1, 0⟩] scope pos) (tDc2 b0 wi g tt wi1 g1 tt1 tk tv (own.map (·.2)) vs1) := by
  refine ⟨fun pins s σ H Q I h => ?_⟩
  rw [arm_eval_DictComp]
  refine dc2_core hu hc hN I hi ok hv hg ht he he2 hs hi1 hg1 ht1 hs1 h fun D C s' m H' I' q hn f => ⟨m, hn, fun h'' sb => ?_⟩
  obtain ⟨f0, f1, f2, f3, f4, f5⟩ := f
  exact ⟨.ref D, H', I'.turned (t' := s'.toks) (fun b o hb e => (sb.2 b hb).trans e) f0 f1 f3 f4 f5, rfl, q⟩
theorem ps_setDc2 {i : Nat} {y : Str} {py : Pos} {kx vx tg iter tg1 iter1 : Expr} {ifs ifs1 : List Expr} {scope : Scope} {own : List (Str × Nat)} {vs1 : List Nat} {pos spos : Pos} {wi wi1 : TI} {g g1 : TG} {tt tt1 : TT} {tk tv : TE} (hu : X.A.units + 1 < cLine) (hc : X.calm = true) (hN : X.N.Nodup) (hy : X.N[i]? = some y) (hyl : X.env.scope.names.lookup y = some .local)
    (hsw : swapsWith (.DictComp kx vx [⟨tg, iter, ifs, 0⟩, ⟨tg1, iter1, ifs1, 0⟩] scope pos) (some (.Name y py)) spos.line X.env = pure true) (hi : PI X tg iter wi) (ok : BlkOk X.N X.env.scope scope own) (hv : ∀ i ∈ vs1, i ∈ own.map (·.2))
    (hg : ∀ (s : Shared) (H : Hp) (C : Addr) (cl : List (Str × Addr)) (fp : List Addr), PG (X.blk s H scope (compEnvC scope cl C X.env) fp) tg g) (ht : ∀ (s : Shared) (H : Hp) (C : Addr) (cl : List (Str × Addr)) (fp : List Addr), PTs (X.blk s H scope (compEnvC scope cl C X.env) fp) ifs tt)
    (hi1 : ∀ (s : Shared) (H : Hp) (C : Addr) (cl : List (Str × Addr)) (fp : List Addr), PI (X.blk s H scope (compEnvC scope cl C X.env) fp) tg1 iter1 wi1)
    (hg1 : ∀ (s : Shared) (H : Hp) (C : Addr) (cl : List (Str × Addr)) (fp : List Addr), PG (X.blk s H scope (compEnvC scope cl C X.env) fp) tg1 g1) (ht1 : ∀ (s : Shared) (H : Hp) (C : Addr) (cl : List (Str × Addr)) (fp : List Addr), PTs (X.blk s H scope (compEnvC scope cl C X.env) fp) ifs1 tt1)
    (he : ∀ (s : Shared) (H : Hp) (C : Addr) (cl : List (Str × Addr)) (fp : List Addr), PE (X.blk s H scope (compEnvC scope cl C X.env) fp) kx tk) (he2 : ∀ (s : Shared) (H : Hp) (C : Addr) (cl : List (Str × Addr)) (fp : List Addr), PE (X.blk s H scope (compEnvC scope cl C X.env) fp) vx tv) (hs : ∀ x, foldedSetIterable iter X.env x = pure x := by intro _; rfl) (hs1 : ∀ env x, foldedSetIterable iter1 env x = pure x := by intro _ _; rfl) :
    PS X (.Assign [.Name y py] (.DictComp kx vx [⟨tg, iter, ifs, 0⟩, ⟨tg1, iter1, ifs1, 0⟩] scope pos) spos) (tAsg (tDc2 b0 wi g tt wi1 g1 tt1 tk tv (own.map (·.2)) vs1) (gName i)) := by
  refine ⟨fun pins s σ H D I h => ?_⟩
  rw [exec_Assign_Name_used _ _ _ _ hsw]
  refine wpAny_bind (wpAny_standAt (wpAny_bind ?_))
  show wpAny _ X.A (do let _ ← comprehension (.DictComp kx vx [⟨tg, iter, ifs, 0⟩, ⟨tg1, iter1, ifs1, 0⟩] scope pos) scope X.env (firstIterPos [⟨tg, iter, ifs, 0⟩, ⟨tg1, iter1, ifs1, 0⟩] pos) newDict false (eval iter X.env) (some (assign (.Name y py) X.env))) _ _ s
  have h : tDc2 b0 wi g tt wi1 g1 tt1 tk tv (own.map (·.2)) vs1 σ H (fun x H1 => gName i x σ H1 D.nx) := h
  refine wpAny_bind (thn (dc2_core (Qf := fun _ s' => SP X pins D .next s') hu hc hN I hi ok hv hg ht he he2 hs hi1 hg1 ht1 hs1 h fun L C s' m H' I' q hn f => ?_) fun _ s' hq => wpAny_pure (wpAny_pure hq))
  show wpAny _ _ (assign (.Name y py) X.env (.ref L)) _ _ _
  refine wpAny_assign_Name (store_ok2 (v := V.ref L) I' hN hy (.inl hyl) rfl (fun s2 I2 ⟨a, sb, ha⟩ => ?_) (.inr hyl))
  obtain ⟨f0, f1, f2, f3, f4, f5⟩ := f
  have haC : C ≠ a := by
    rcases ha with z | z
    · rw [z]; exact f1
    · exact fun e => f4 y a z e.symm
  refine ⟨m, hn.sameBut sb haC, fun h3 sb3 => ?_⟩
  exact ⟨_, H', I2.turned (t' := s2.toks) (fun b o hb e => (sb3.2 b hb).trans e) f0 f1 f3 f4 f5, q⟩
end
end L2
set_option Elab.async false
set_option linter.all false
set_option maxRecDepth 100000
set_option maxHeartbeats 4000000
namespace PL
open PySem PySem.Spec PyProof.Rows L2
/-! ### dict comprehensions with two clauses -/
section
variable {X : Cx} {W W0 : WX} {kx vx tg iter tg1 iter1 : Expr} {ifs ifs1 : List Expr} {scope : Scope} {own : List (Str × Nat)} {pos : Pos} {is is1 : List Nat} {t t1 : Tg} {b : Bool}
  {fi fi1 : Env → Res ((List PV × RV) × Env)} {ft ft1 : PV → Env → Res Env} {fc fc1 : Env → Res (Bool × Env)} {fk fv : Env → Res (RV × Env)}
theorem dPut_len (kvs : List (List L2.Key × PV)) (k : List L2.Key) (v : PV) : kvs.length ≤ (dPut kvs k v).length := by
  unfold dPut
  split
  · rw [List.length_map]; exact Nat.le_refl _
  · rw [List.length_append]; exact Nat.le_add_right _ _
theorem dcGo_len {is : List Nat} {ft : PV → Env → Res Env} {fc : Env → Res (Bool × Env)} {fe : Env → Res ((List L2.Key × PV) × Env)} {wp : Env → Env} : ∀ {items : List PV} {acc : List (List L2.Key × PV)} {env : Env} {r : List (List L2.Key × PV) × Env}, dcGo is ft fc fe wp items acc env = .ok r → acc.length ≤ r.1.length
  | [], acc, env, r, h => by
    have h : (Res.ok (acc, env) : Res (List (List L2.Key × PV) × Env)) = .ok r := h
    cases h
    exact Nat.le_refl _
  | x :: xs, acc, env, r, h => by
    unfold dcGo at h
    obtain ⟨e1, _, h⟩ := Res.bind_ok h
    obtain ⟨⟨b, e2⟩, _, h⟩ := Res.bind_ok h
    cases b with
    | false => exact dcGo_len (items := xs) h
    | true =>
      obtain ⟨⟨q, e3⟩, _, h⟩ := Res.bind_ok h
      exact Nat.le_trans (dPut_len _ _ _) (dcGo_len (items := xs) h)
theorem dc2Go_len {is : List Nat} {ft : PV → Env → Res Env} {fc : Env → Res (Bool × Env)} {fin : Env → List (List L2.Key × PV) → Res (List (List L2.Key × PV) × Env)} {wp : Env → Env} (hin : ∀ e acc r, fin e acc = .ok r → acc.length ≤ r.1.length) : ∀ {items : List PV} {acc : List (List L2.Key × PV)} {env : Env} {r : List (List L2.Key × PV) × Env}, dc2Go is ft fc fin wp items acc env = .ok r → acc.length ≤ r.1.length
  | [], acc, env, r, h => by
    have h : (Res.ok (acc, env) : Res (List (List L2.Key × PV) × Env)) = .ok r := h
    cases h
    exact Nat.le_refl _
  | x :: xs, acc, env, r, h => by
    unfold dc2Go at h
    obtain ⟨e1, _, h⟩ := Res.bind_ok h
    obtain ⟨⟨b, e2⟩, _, h⟩ := Res.bind_ok h
    cases b with
    | false => exact dc2Go_len hin (items := xs) h
    | true =>
      obtain ⟨⟨q, e3⟩, k, h⟩ := Res.bind_ok h
      exact Nat.le_trans (hin _ _ _ k) (dc2Go_len hin (items := xs) h)
abbrev fInD (b : Bool) (fi1 : Env → Res ((List PV × RV) × Env)) (ft1 : PV → Env → Res Env) (fc1 : Env → Res (Bool × Env)) (fk fv : Env → Res (RV × Env)) (is1 : List Nat) : Env → List (List L2.Key × PV) → Res (List (List L2.Key × PV) × Env) := fun e1 acc => (fi1 e1).bind fun s => match s.1.2 with
    | .val _ => dcGo is1 ft1 fc1 (fEnt b fk fv) (fun e2 => wipeE e2 is1) s.1.1 acc (wipeE s.2 is1)
    | _ => .stuck
abbrev fDc2 (b : Bool) (fi : Env → Res ((List PV × RV) × Env)) (ft : PV → Env → Res Env) (fc : Env → Res (Bool × Env)) (fi1 : Env → Res ((List PV × RV) × Env)) (ft1 : PV → Env → Res Env) (fc1 : Env → Res (Bool × Env)) (fk fv : Env → Res (RV × Env)) (is is1 : List Nat) : Env → Res (RV × Env) := fun env => (fi env).bind fun r => match plainAt r.2 is with
    | false => .stuck
    | true => (dc2Go is ft fc (fInD b fi1 ft1 fc1 fk fv is1) (fun e1 => wipeE e1 is) r.1.1 [] (wipeE r.2 is)).noexc.bind fun q =>
      if q.1.length < sizeLine then .ok (.new (.dct b q.1), unb r.1.2 (restore r.2 q.2 is)) else .stuck
theorem imp_dc2 {K : PySem.W.Frag} {mg : Str → Option Value} {σ : SlotV} {H : Hp} {Q : VK} (hv : ∀ j ∈ is1, j ∈ is) (hsub : ∀ j ∈ tgs t, j ∈ is) (hsub1 : ∀ j ∈ tgs t1, j ∈ is1)
    (h : liftE K mg W (fDc2 b fi ft fc fi1 ft1 fc1 fk fv is is1) σ H Q) :
    tDc2 b (liftI K mg W fi) (liftG K mg W0 (tgs t) ft) (liftT K mg W0 fc) (liftI K mg W0 fi1) (liftG K mg W0 (tgs t1) ft1) (liftT K mg W0 fc1) (liftE K mg W0 fk) (liftE K mg W0 fv) is is1 σ H Q := by
  obtain ⟨env, S, As, R, h⟩ := h
  refine liftI.mono (bindI Stp.refl R h) ?_
  rintro J H1 ⟨items, keep, env1, S1, As1, kv, kB, st1, R1, okk, frk, wk, h1⟩ D hD
  dsimp only at h1
  cases hp : plainAt env1 is with
  | false => rw [hp] at h1; exact False.elim h1
  | true =>
    rw [hp] at h1
    dsimp only at h1
    have hin : ∀ (e1 : Env) (acc : List (List L2.Key × PV)) (r : List (List L2.Key × PV) × Env), fInD b fi1 ft1 fc1 fk fv is1 e1 acc = .ok r → acc.length ≤ r.1.length := fun e1 acc r h => by
      obtain ⟨s, _, h⟩ := Res.bind_ok h
      split at h
      · exact dcGo_len h
      · cases h
    generalize hrun0 : dc2Go is ft fc (fInD b fi1 ft1 fc1 fk fv is1) (fun e1 => wipeE e1 is) items [] (wipeE env1 is) = run at h1
    cases run with
    | exc C fs e => exact False.elim h1
    | stuck => exact False.elim h1
    | ok r =>
      obtain ⟨accF, envF⟩ := r
      have h1 : Post K mg W H S As (if accF.length < sizeLine then .ok (.new (.dct b accF), unb keep (restore env1 envF is)) else .stuck) (KE K mg σ H S As Q) := h1
      split at h1
      case isFalse => exact False.elim h1
      rename_i hsz
      have h1 : KE K mg σ H S As Q (.new (.dct b accF)) (unb keep (restore env1 envF is)) := h1
      obtain ⟨As2, R2, st2⟩ := R1.wipes (is := is)
      obtain ⟨R3, st3⟩ := R2.layN (o := oE b) hD
      have noD : ¬ Own As2 D := fun z => R2.there z hD
      let Iv : Nat → Hp → Prop := fun i Hc => ∃ env' S' As' acc, Stp H1 S1 As1 Hc S' As' ∧ Rel K mg (wipe σ is) env' Hc S' As' ∧ RvOk K mg (wipe σ is) Hc S' As' (.ref D) (.new (.dct b acc)) [D] ∧
        dc2Go is ft fc (fInD b fi1 ft1 fc1 fk fv is1) (fun e1 => wipeE e1 is) (items.drop i) acc env' = .ok (accF, envF)
      have RvI : ∀ {Hx : Hp} {Sx : Hp} {Ax : Fp} {σx : SlotV} {acc : List (List L2.Key × PV)}, RvOk K mg σx Hx Sx Ax (.ref D) (.new (.dct b acc)) [D] → ∃ ws, DH b (Hx D) ws ∧ Rpd K mg Sx ws acc := fun h => by
        obtain ⟨h1, h2⟩ := h
        unfold CellOk at h1
        obtain ⟨a, ws, e1, h3, h4, e2⟩ := h1
        cases e1
        exact ⟨ws, h3, h4⟩
      -- of the slots nothing is said
      have RvS : ∀ {Hx : Hp} {Sx : Hp} {Ax : Fp} {σx σy : SlotV} {acc : List (List L2.Key × PV)}, RvOk K mg σx Hx Sx Ax (.ref D) (.new (.dct b acc)) [D] → RvOk K mg σy Hx Sx Ax (.ref D) (.new (.dct b acc)) [D] := fun h => h
      have d0 : DH b (upd H1 D (oE b) D) [] := by
        rw [upd_same]
        cases b with
        | true => rfl
        | false => exact ⟨[], rfl, rfl⟩
      refine ⟨fun i m Hc => m = items.length - i ∧ i ≤ items.length ∧ Iv i Hc, ⟨_, rfl, Nat.zero_le _, wipeE env1 is, S1, As2, [], st2.trans st3, R3, ⟨by unfold CellOk; exact ⟨D, [], rfl, d0, (by unfold Rpd; rfl), rfl⟩, fun b hb => by
        obtain rfl : b = D := by simpa using hb
        exact ⟨noD, R1.sub.free hD⟩⟩, hrun0⟩, ?_⟩
      rintro i m Hc ⟨rfl, hile, env', S', As', acc, stc, Rc, mk, hrun⟩
      have sm : Same S1 Hc := stc.same.trans Rc.sub
      by_cases hlt : i < items.length
      · obtain ⟨hgoJ, hy⟩ := wk.item Hc sm (keep_pin okk stc) i items[i] (List.getElem?_eq_getElem hlt)
        refine .inr ⟨hgoJ, Iv (i + 1), fun H' p' => ⟨items.length - (i + 1), by omega, rfl, hlt, p'⟩, fun x H3 y => ?_⟩
        obtain ⟨S3, R4, st4, rx⟩ := ((hy x H3 y).mono stc.same).lay Rc
        rw [List.drop_eq_getElem_cons hlt] at hrun
        unfold dc2Go at hrun
        obtain ⟨e1, k1, hrun⟩ := Res.bind_ok hrun
        obtain ⟨⟨c, e2⟩, k2, hrun⟩ := Res.bind_ok hrun
        refine ⟨env', S3, As', items[i], R4, rx, PostG.ok k1 ?_⟩
        intro σ5 H5 S5 As5 kp5 st5 R5
        have hw5 : wipe σ5 is = wipe σ is := wipe_kept kp5 hsub
        refine ⟨hw5, e1, S5, As5, R5, Post.ok' k2 ?_⟩
        intro H6 S6 As6 st6 R6
        have st16 := ((stc.trans st4).trans st5).trans st6
        have mk6 : RvOk K mg (wipe σ is) H6 S6 As6 (.ref D) (.new (.dct b acc)) [D] := ((mk.stp st4).stp st5).stp st6
        cases c with
        | false =>
          obtain ⟨As7, R7, st7⟩ := R6.wipes (is := is)
          rw [hw5] at R7
          exact iteF ⟨wipeE e2 is, S6, As7, acc, st16.trans st7, R7, mk6.stp st7, hrun⟩
        | true =>
          refine iteT ?_
          obtain ⟨⟨accI, envI⟩, k3, hrun⟩ := Res.bind_ok hrun
          have hlenF : accI.length < sizeLine := Nat.lt_of_le_of_lt (dc2Go_len hin hrun) hsz
          dsimp only at k3
          obtain ⟨⟨⟨items1, keep1⟩, e3⟩, k4, k5⟩ := Res.bind_ok k3
          obtain ⟨pk, rfl⟩ : ∃ p, keep1 = .val p := by
            cases keep1 <;> first | exact ⟨_, rfl⟩ | cases k5
          refine ⟨e2, S6, As6, R6, Post.ok' k4 ?_⟩
          intro J1 H7 S7 As7 kv1 kB1 st7 R7 okk1 frk1 wk1
          obtain rfl : kB1 = [] := okk1.2
          have pn1 : ∀ Hd, Same (pin H7 []) Hd := fun Hd => pin_same fun b hb => by cases hb
          obtain ⟨As8, R8, st8⟩ := R7.wipes (is := is1)
          have st18 := (st16.trans st7).trans st8
          have mk8 : RvOk K mg (wipe σ is) H7 S7 As8 (.ref D) (.new (.dct b acc)) [D] := (mk6.stp st7).stp st8
          let Iv1 : Nat → Hp → Prop := fun j Hd => ∃ env' S' As' acc, Stp H1 S1 As1 Hd S' As' ∧ Same S7 S' ∧ Rel K mg (wipe σ5 is1) env' Hd S' As' ∧ RvOk K mg (wipe σ is) Hd S' As' (.ref D) (.new (.dct b acc)) [D] ∧
            dcGo is1 ft1 fc1 (fEnt b fk fv) (fun e2 => wipeE e2 is1) (items1.drop j) acc env' = .ok (accI, envI)
          refine ⟨fun j m Hd => m = items1.length - j ∧ j ≤ items1.length ∧ Iv1 j Hd, ⟨_, rfl, Nat.zero_le _, wipeE e3 is1, S7, As8, acc, st18, Same.refl _, R8, mk8, k5⟩, ?_⟩
          rintro j m Hd ⟨rfl, hjle, envd, Sd, Asd, accd, std, smd, Rd, mkd, hrund⟩
          have smdd : Same S7 Hd := smd.trans Rd.sub
          by_cases hjlt : j < items1.length
          · obtain ⟨hgoJ1, hy1⟩ := wk1.item Hd smdd (pn1 Hd) j items1[j] (List.getElem?_eq_getElem hjlt)
            refine .inr ⟨hgoJ1, Iv1 (j + 1), fun H' p' => ⟨items1.length - (j + 1), by omega, rfl, hjlt, p'⟩, fun x1 H9 y1 => ?_⟩
            obtain ⟨S9, R9, st9, rx9⟩ := ((hy1 x1 H9 y1).mono smd).lay Rd
            rw [List.drop_eq_getElem_cons hjlt] at hrund
            unfold dcGo at hrund
            obtain ⟨f1, l1, hrund⟩ := Res.bind_ok hrund
            obtain ⟨⟨b1, f2⟩, l2, hrund⟩ := Res.bind_ok hrund
            refine ⟨envd, S9, Asd, items1[j], R9, rx9, PostG.ok l1 ?_⟩
            intro σa Ha Sa Asa kpa sta Ra
            have hwa : wipe σa is1 = wipe σ5 is1 := wipe_kept kpa hsub1
            refine ⟨hwa, f1, Sa, Asa, Ra, Post.ok' l2 ?_⟩
            intro Hb Sb Asb stb Rb
            have st1b := ((std.trans st9).trans sta).trans stb
            have mkb : RvOk K mg (wipe σ is) Hb Sb Asb (.ref D) (.new (.dct b accd)) [D] := ((mkd.stp st9).stp sta).stp stb
            have smb := ((smd.trans st9.same).trans sta.same).trans stb.same
            cases b1 with
            | false =>
              obtain ⟨Asc, Rc', stc'⟩ := Rb.wipes (is := is1)
              rw [hwa] at Rc'
              exact iteF ⟨wipeE f2 is1, Sb, Asc, accd, st1b.trans stc', smb, Rc', mkb.stp stc', hrund⟩
            | true =>
              refine iteT ?_
              obtain ⟨⟨⟨ky, q⟩, f4⟩, l3, hrund⟩ := Res.bind_ok hrund
              obtain ⟨⟨rv, f3⟩, l4, l5⟩ := Res.bind_ok l3
              obtain ⟨⟨kp, f5⟩, m5, l6⟩ := Res.bind_ok l5
              obtain ⟨ky', m6, l7⟩ := Res.bind_ok l6
              obtain ⟨⟨rw', f6⟩, m7, l8⟩ := Res.bind_ok l7
              obtain ⟨⟨wp, f7⟩, m8, l9⟩ := Res.bind_ok l8
              have m5 := optR_ok m5
              have m6 := optR_ok m6
              have m8 := optR_ok m8
              cases l9
              refine ⟨f2, Sb, Asb, Rb, Post.ok' l4 ?_⟩
              intro y Hc2 Sc Asc B stc2 Rc2 okc frc
              obtain ⟨Sd2, Asd2, Rd2, std2, rpd, smd2, _⟩ := take_ok Rc2 okc stc2 frc m5
              have mkd2 : RvOk K mg (wipe σ is) Hc2 Sd2 Asd2 (.ref D) (.new (.dct b accd)) [D] := mkb.stp std2
              refine ⟨f5, Sd2, Asd2, Rd2, Post.ok' m7 ?_⟩
              intro z He Se Ase Be ste Re oke fre
              obtain ⟨Sf, Asf, Rf, stf, rpf, smf, _⟩ := take_ok Re oke ste fre m8
              have mkf : RvOk K mg (wipe σ is) He Sf Asf (.ref D) (.new (.dct b accd)) [D] := mkd2.stp stf
              obtain ⟨Asg, Rg, stg⟩ := Rf.wipes (is := is1)
              rw [hwa] at Rg
              have mkg : RvOk K mg (wipe σ is) He Sf Asg (.ref D) (.new (.dct b accd)) [D] := mkf.stp stg
              obtain ⟨ws, d1, d2⟩ := RvI mkg
              have ng := mkg.2 D List.mem_cons_self
              have hz : accd.length < sizeLine := by
                have h9 := dcGo_len hrund
                exact Nat.lt_of_le_of_lt (Nat.le_trans (dPut_len _ _ _) h9) hlenF
              obtain ⟨o, ws', dp, dh, rr⟩ := dput_ok d1 d2 (Rp.mono (stf.same.trans Rf.sub) _ _ rpd) m6 rpf hz
              obtain ⟨Rh, sth⟩ := mk_push (o := o) ng.1 ng.2 Rg hD (((st1b.trans std2).trans stf).trans stg)
              exact ⟨_, dp, wipeE f7 is1, Sf, Asg, dPut accd ky wp, sth, (smb.trans std2.same).trans stf.same, Rh, ⟨by unfold CellOk; exact ⟨D, ws', rfl, by rw [upd_same]; exact dh, rr, rfl⟩, mkg.2⟩, hrund⟩
          · have e : j = items1.length := by omega
            subst e
            rw [List.drop_length] at hrund
            have hrund : (Res.ok (accd, envd) : Res (List (List L2.Key × PV) × Env)) = .ok (accI, envI) := hrund
            cases hrund
            obtain ⟨As9, R9, st9⟩ := Rd.wipes (is := is)
            rw [wipe_sub hv, hw5] at R9
            exact .inl ⟨wk1.stop Hd smdd (pn1 Hd) _ (Nat.le_refl _), wipeE envI is, Sd, As9, accI, std.trans st9, R9, mkd.stp st9, hrun⟩
      · have e : i = items.length := by omega
        subst e
        rw [List.drop_length] at hrun
        have hrun : (Res.ok (acc, env') : Res (List (List L2.Key × PV) × Env)) = .ok (accF, envF) := hrun
        cases hrun
        obtain ⟨As9, R9, st9⟩ := Rel.restored R1 hp Rc stc.same
        have mk9 := mk.stp st9
        obtain ⟨As10, R10, st10, o10⟩ := unb_ok R9 (okk.stp (stc.trans st9)) (st1.trans (stc.trans st9)) frk
        refine .inl ⟨wk.stop Hc sm (keep_pin okk stc) _ (Nat.le_refl _), h1 _ _ _ _ [D] st10 R10 ⟨mk9.1, fun b hb => ?_⟩ fun b hb => ?_⟩
        · refine ⟨fun z => (o10 b z).elim (mk9.2 b hb).1 fun z => ?_, (mk9.2 b hb).2⟩
          obtain rfl : b = D := by simpa using hb
          exact (okk.there b z).1 hD
        · obtain rfl : b = D := by simpa using hb
          exact st1.fresh (.inl hD)
theorem le_dc2 (hu : X.A.units + 1 < cLine) (hown : own.map (·.2) = is) (hc : X.calm = true) (hN : X.N.Nodup) (hi : LI X W tg iter fi) (ok : BlkOk X.N X.env.scope scope own) (hv : ∀ j ∈ is1, j ∈ is) (hsub : ∀ j ∈ tgs t, j ∈ is) (hsub1 : ∀ j ∈ tgs t1, j ∈ is1)
    (hg : ∀ (s : Shared) (H : Hp) (C : Addr) (cl : List (Str × Addr)) (fp : List Addr), LG (X.blk s H scope (compEnvC scope cl C X.env) fp) W0 tg t ft)
    (ht : ∀ (s : Shared) (H : Hp) (C : Addr) (cl : List (Str × Addr)) (fp : List Addr), PTs (X.blk s H scope (compEnvC scope cl C X.env) fp) ifs (liftT X.K X.mg W0 fc))
    (hi1 : ∀ (s : Shared) (H : Hp) (C : Addr) (cl : List (Str × Addr)) (fp : List Addr), LI (X.blk s H scope (compEnvC scope cl C X.env) fp) W0 tg1 iter1 fi1)
    (hg1 : ∀ (s : Shared) (H : Hp) (C : Addr) (cl : List (Str × Addr)) (fp : List Addr), LG (X.blk s H scope (compEnvC scope cl C X.env) fp) W0 tg1 t1 ft1)
    (ht1 : ∀ (s : Shared) (H : Hp) (C : Addr) (cl : List (Str × Addr)) (fp : List Addr), PTs (X.blk s H scope (compEnvC scope cl C X.env) fp) ifs1 (liftT X.K X.mg W0 fc1))
    (hk : ∀ (s : Shared) (H : Hp) (C : Addr) (cl : List (Str × Addr)) (fp : List Addr), LE (X.blk s H scope (compEnvC scope cl C X.env) fp) W0 kx fk)
    (he : ∀ (s : Shared) (H : Hp) (C : Addr) (cl : List (Str × Addr)) (fp : List Addr), LE (X.blk s H scope (compEnvC scope cl C X.env) fp) W0 vx fv) (hs : ∀ x, foldedSetIterable iter X.env x = pure x) (hs1 : ∀ env x, foldedSetIterable iter1 env x = pure x) :
    LE X W (.DictComp kx vx [⟨tg, iter, ifs, 0⟩, ⟨tg1, iter1, ifs1, 0⟩] scope pos) (fDc2 b fi ft fc fi1 ft1 fc1 fk fv is is1) := by
  refine PE.imp (pe_dc2 (b0 := b) (vs1 := is1) (g := liftG X.K X.mg W0 (tgs t) ft) (tt := liftT X.K X.mg W0 fc) (wi1 := liftI X.K X.mg W0 fi1) (g1 := liftG X.K X.mg W0 (tgs t1) ft1) (tt1 := liftT X.K X.mg W0 fc1) (tk := liftE X.K X.mg W0 fk) (tv := liftE X.K X.mg W0 fv) hu hc hN hi ok (by rw [hown]; exact hv) hg ht hi1 hg1 ht1 hk he hs hs1) fun σ H Q h => ?_
  rw [hown]
  exact imp_dc2 hv hsub hsub1 h
theorem ls_setDc2 {p1 pos' : Pos} {i : Nat} {y : Str} (hu : X.A.units + 1 < cLine)
    (hown : own.map (·.2) = is) (hc : X.calm = true) (hN : X.N.Nodup) (hy : X.N[i]? = some y) (hyl : X.env.scope.names.lookup y = some .local) (hsw : swapsWith (.DictComp kx vx [⟨tg, iter, ifs, 0⟩, ⟨tg1, iter1, ifs1, 0⟩] scope p1) (some (.Name y pos')) pos.line X.env = pure true)
    (hi : LI X W tg iter fi) (ok : BlkOk X.N X.env.scope scope own) (hv : ∀ j ∈ is1, j ∈ is) (hsub : ∀ j ∈ tgs t, j ∈ is) (hsub1 : ∀ j ∈ tgs t1, j ∈ is1)
    (hg : ∀ (s : Shared) (H : Hp) (C : Addr) (cl : List (Str × Addr)) (fp : List Addr), LG (X.blk s H scope (compEnvC scope cl C X.env) fp) W0 tg t ft)
    (ht : ∀ (s : Shared) (H : Hp) (C : Addr) (cl : List (Str × Addr)) (fp : List Addr), PTs (X.blk s H scope (compEnvC scope cl C X.env) fp) ifs (liftT X.K X.mg W0 fc))
    (hi1 : ∀ (s : Shared) (H : Hp) (C : Addr) (cl : List (Str × Addr)) (fp : List Addr), LI (X.blk s H scope (compEnvC scope cl C X.env) fp) W0 tg1 iter1 fi1)
    (hg1 : ∀ (s : Shared) (H : Hp) (C : Addr) (cl : List (Str × Addr)) (fp : List Addr), LG (X.blk s H scope (compEnvC scope cl C X.env) fp) W0 tg1 t1 ft1)
    (ht1 : ∀ (s : Shared) (H : Hp) (C : Addr) (cl : List (Str × Addr)) (fp : List Addr), PTs (X.blk s H scope (compEnvC scope cl C X.env) fp) ifs1 (liftT X.K X.mg W0 fc1))
    (hk : ∀ (s : Shared) (H : Hp) (C : Addr) (cl : List (Str × Addr)) (fp : List Addr), LE (X.blk s H scope (compEnvC scope cl C X.env) fp) W0 kx fk)
    (he : ∀ (s : Shared) (H : Hp) (C : Addr) (cl : List (Str × Addr)) (fp : List Addr), LE (X.blk s H scope (compEnvC scope cl C X.env) fp) W0 vx fv) (hs : ∀ x, foldedSetIterable iter X.env x = pure x) (hs1 : ∀ env x, foldedSetIterable iter1 env x = pure x) :
    LS X W (.Assign [.Name y pos'] (.DictComp kx vx [⟨tg, iter, ifs, 0⟩, ⟨tg1, iter1, ifs1, 0⟩] scope p1) pos) (fun env => (fDc2 b fi ft fc fi1 ft1 fc1 fk fv is is1 env).bind fun r => (optR (settle r.1 r.2)).bind fun r => (optR (put i r.1 r.2)).bind fun e1 => .ok (.nx, e1)) := by
  refine PS.imp (ps_setDc2 (b0 := b) (vs1 := is1) (g := liftG X.K X.mg W0 (tgs t) ft) (tt := liftT X.K X.mg W0 fc) (wi1 := liftI X.K X.mg W0 fi1) (g1 := liftG X.K X.mg W0 (tgs t1) ft1) (tt1 := liftT X.K X.mg W0 fc1) (tk := liftE X.K X.mg W0 fk) (tv := liftE X.K X.mg W0 fv) hu hc hN hy hyl hsw hi ok (by rw [hown]; exact hv) hg ht hi1 hg1 ht1 hk he hs hs1) fun D σ H h => ?_
  rw [hown]
  exact imp_dc2 hv hsub hsub1 (asg_imp h)
end
end PL
set_option Elab.async false
set_option linter.all false
set_option maxRecDepth 100000
set_option maxHeartbeats 4000000
/-! ### set(xs) of ints, sorted and counted (the first theorem is turned from the one for tuples by gen_set.py) -/
namespace L2
open PySem PySem.Spec PyProof.Rows
section
variable {P : Program} {w : World} {A : Around} {E : Value → Shared → Prop} {s : Shared}
set_option maxRecDepth 100000 in
set_option maxHeartbeats 3200000 in
theorem call_set_listI {l : Addr} {items : Array Value} (ns : List Int) {Q : Value → Shared → Prop} (hh : A.handled = none) (hl : s.heap.IsList l items) (hit : IntsAre items.toList ns) (hb : ns.length + 1 < scanBound)
    (h : ∀ (h' : Heap) (tk c : Nat), SetR w h' s.heap.objs.size (fun j => decide (j ∈ ns)) c → c ≤ ns.length → (∀ b o, s.heap.get? b = some o → h'.get? b = some o) → Q (.ref s.heap.objs.size) { s with heap := h', toks := tk }) :
    wpAny (model P w) A (call (.type "set") [.ref l]) Q E s := by
  have hisz : items.size = ns.length := by
    have q := IntsAre.length hit
    rw [Array.length_toList] at q
    exact q
  obtain ⟨c, tl, hmro⟩ := F.called_set.mro
  have hmade := F.called_set.made
  have hsub := F.called_set.sub
  refine wpAny_call (codeAny_of_tree ?_)
  show wpAny _ _ (callAny (.type "set") _) _ _ _
  refine wpAny_pure ⟨Code.quiet_builtin _ (by decide +kernel), codeAny_builtin F.entry_type_call ?_⟩
  rw [Around.under_plain (weight_type_call_type "set" [.ref l] []) rfl]
  have h1 := F.called_set.notType
  have h2 := F.called_set.canCreate
  have hct := F.typeCall_set_1 (.ref l)
  repeat (any_goals (first | assumption | wp_step))

  refine codeAny_mono (code_set_led1 (.ref l) (E := E) (Q₁ := fun obj s₁ => obj = .ref s.heap.objs.size ∧ s₁ = { s with heap := s.heap.push { cls := .type "set", dict := none, data := .set #[] 0 (.fresh 0 0 (!w.params.followText "set-order")) } }) ⟨rfl, rfl⟩) fun r s₁ hr => ?_
  cases r with
  | error e => exact hr
  | ok fl =>
    cases fl with
    | ret obj =>
      obtain ⟨rfl, rfl⟩ := hr
      have hS : (s.heap.push { cls := .type "set", dict := none, data := .set #[] 0 (.fresh 0 0 (!w.params.followText "set-order")) }).get? s.heap.objs.size = some { cls := .type "set", dict := none, data := .set #[] 0 (.fresh 0 0 (!w.params.followText "set-order")) } := Heap.get?_push_size _ rfl
      have hT : Shared.TypeIs { s with heap := s.heap.push { cls := .type "set", dict := none, data := .set #[] 0 (.fresh 0 0 (!w.params.followText "set-order")) } } (.ref s.heap.objs.size) "set" := ⟨_, hS, rfl⟩
      have hli := F.called_set.init.lookup
      have hbi := F.called_set.init.bind (.ref s.heap.objs.size)
      repeat (any_goals (first | assumption | wp_step))

      refine codeAny_mono (codeAny_call_builtin (R := wants (fun r s₂ => r = .none ∧ ∃ h' tk c, s₂ = { s with heap := h', toks := tk } ∧ SetR w h' s.heap.objs.size (fun j => decide (j ∈ ns)) c ∧ c ≤ ns.length ∧
          (∀ b o, s.heap.get? b = some o → h'.get? b = some o)) E) F.called_set.init.plain F.entry_set_init (check_set_init_1 hT ?_)) fun r₂ s₂ hr₂ => ?_
      · obtain ⟨ol, hol, hcl, nl, hdl⟩ := hl
        obtain ⟨ocls, odict, odata, oslots⟩ := ol
        simp only at hcl hdl
        subst hcl; subst hdl
        have hol' : (s.heap.push { cls := .type "set", dict := none, data := .set #[] 0 (.fresh 0 0 (!w.params.followText "set-order")) }).get? l = some { cls := .type "list", dict := odict, data := .seq items nl, slots := oslots } := Heap.get?_push_of_some _ hol
        have hsls := F.sub_list_set
        have hslf := F.sub_list_frozenset
        have hne : (Value.type "list" == Value.type "dict") = false := by decide
        have hl1 : (s.heap.push { cls := .type "set", dict := none, data := .set #[] 0 (.fresh 0 0 (!w.params.followText "set-order")) }).IsList l items := ⟨_, hol', rfl, nl, rfl⟩
        unfold Builtin.«set.__init__» noKeywords Builtin.Frozenset.updateFrom
        generalize hPI : pyIter = PI
        wp_walk
        subst hPI

        refine wpAny_pyIter_list hl1 ?_
        refine wpAny_bind (wpAny_runValue ?_)
        have hlS : l < s.heap.objs.size := Heap.lt_size hol
        have hh3 : A.in1.in1.in1.handled = none := by simp [hh]
        have hz1 : (s.heap.push { cls := .type "set", dict := none, data := .set #[] 0 (.fresh 0 0 (!w.params.followText "set-order")) }).objs.size = s.heap.objs.size + 1 := Heap.size_push ..
        have hneI : l ≠ (s.heap.push { cls := .type "set", dict := none, data := .set #[] 0 (.fresh 0 0 (!w.params.followText "set-order")) }).objs.size := by
          rw [Heap.size_push]; exact Nat.ne_of_lt (Nat.lt_succ_of_lt hlS)
        have hSf : s.heap.objs.size ∉ [(s.heap.push { cls := .type "set", dict := none, data := .set #[] 0 (.fresh 0 0 (!w.params.followText "set-order")) }).objs.size, l] := by
          rw [Heap.size_push]; simp only [List.mem_cons, List.mem_singleton, List.not_mem_nil, or_false, not_or]
          exact ⟨Nat.ne_of_lt (Nat.lt_succ_self _), Nat.ne_of_gt hlS⟩
        have hval : ∀ (i : Nat) (v : Value), items[i]? = some v → ∃ k t, ns[i]? = some k ∧ v = .int k t := fun i v hv => by
          have hi : i < ns.length := by rw [← hisz]; exact (Array.getElem?_eq_some_iff.mp hv).1
          obtain ⟨t, e⟩ := PyProof.Rows.IntsAre.int_at hit i v (by rw [Array.getElem?_toList]; exact hv)
          refine ⟨ns[i], t, List.getElem?_eq_getElem hi, ?_⟩
          rw [e, List.getD_eq_getElem?_getD, List.getElem?_eq_getElem hi] <;> rfl
        refine set_update_ints ((Walks.list hh3 _ l hneI items).toS) s.heap.objs.size
          hSf ns hisz hb hval (items.size - 0) 0 _ (by omega) (Nat.zero_le _)
          ⟨⟨_, Heap.get?_push_size _ rfl, rfl, rfl⟩, (hl1.push _)⟩ ?hS0 ?hR
        case hS0 =>
          have hget : ((s.heap.push { cls := .type "set", dict := none, data := .set #[] 0 (.fresh 0 0 (!w.params.followText "set-order")) }).push { cls := .type "list_iterator", data := .fields #[.ref l, .int 0 0] }).get? s.heap.objs.size
              = some { cls := .type "set", dict := none, data := .set #[] 0 (.fresh 0 0 (!w.params.followText "set-order")) } := Heap.get?_push_of_some _ hS
          exact ⟨0, Nat.le_refl 0, setR_new_at hget⟩
        case hR =>
          intro s' c' hm hc' hS'
          obtain ⟨h', g2, d', tk', os'⟩ := s'
          have eg : g2 = s.gens := hm.gens
          have ed : d' = s.drawn := hm.drawn
          have eo : os' = s.os := hm.os
          subst eg; subst ed; subst eo
          show wpAny _ _ _ _ _ _
          refine wpAny_pure ?_
          show wpAny _ _ (ret Value.none) _ _ _
          rw [hisz] at hc'
          refine wpAny_pure ⟨rfl, h', tk', c', rfl, hS', hc', fun b o e => ?_⟩
          have hb0 : b < s.heap.objs.size := Heap.lt_size e
          have hb1 : b ≠ s.heap.objs.size := Nat.ne_of_lt hb0
          have hb2 : b ≠ (s.heap.push { cls := .type "set", dict := none, data := .set #[] 0 (.fresh 0 0 (!w.params.followText "set-order")) }).objs.size := by
            rw [Heap.size_push]; exact Nat.ne_of_lt (Nat.lt_succ_of_lt hb0)
          exact hm.heap b o (by simp only [List.mem_cons, List.mem_singleton, List.not_mem_nil, or_false, not_or]; exact ⟨hb1, hb2⟩) (Heap.get?_push_of_some _ (Heap.get?_push_of_some _ e))

      · cases r₂ with
        | error e => exact hr₂
        | ok fl₂ =>
          cases fl₂ with
          | ret r =>
            obtain ⟨rfl, h', tk, c', rfl, hS', hc', hk'⟩ := hr₂
            repeat (any_goals (first | assumption | wp_step))
            exact h _ _ _ hS' hc' hk'
          | _ => exact hr₂.elim
    | _ => exact hr.elim
theorem sorted_setU {a : Addr} {S : Int → Bool} {n : Nat} {Q : Value → Shared → Prop} (R : SetR w s.heap a S n) (hh : A.handled = none) (hn4 : n ≤ 4000)
    (hQ : ∀ s' p (out : List Value) (c : Nat) (ns : List Int), (∀ b o, s.heap.get? b = some o → s'.heap.get? b = some o) → s'.gens = s.gens → s'.os = s.os → s.heap.objs.size ≤ p →
      s'.heap.get? p = some (seqObj "list" out.toArray c) → IntsAre out ns → ns.Pairwise (· < ·) → (∀ k, k ∈ ns ↔ S k = true) → ns.length = n → Q (.ref p) s') :
    wpAny (model P w) A (call (.builtin "sorted") [.ref a]) Q E s := by
  obtain ⟨o, es, ep, t, ho, hex, hd, g, nd, hm, hb, hf, hn, hr, hl⟩ := R
  refine Calls.call_function_entry kind_sorted plain_sorted entry_sorted (args_sorted1 _) ?_
  unfold Builtin.«sorted»
  refine wpAny_bind (m := checkCount "sorted" 1 1 _) (wpAny_pure ?_)
  refine wpAny_bind (collect_set (A := A.in1) hh ⟨o, ho, hex.1, hd⟩ hf hb hr hl fun s1 vs k1 hz g1 o1 pm => ?_)
  have hvl : vs.length = n := by rw [pm.length_eq, List.length_map, Array.length_toList]; exact hn
  have hI : IntsAre vs (vs.map Builtin.Re.reRawOf) := ints_of vs fun v hv => by
    obtain ⟨e, he, q⟩ := List.mem_map.mp (pm.mem_iff.mp hv)
    obtain ⟨k, tk, h1, _⟩ := g e he
    exact ⟨k, tk, by rw [← q]; exact h1⟩
  have pk : (vs.map Builtin.Re.reRawOf).Perm (es.toList.map keyOf) := by
    have q := pm.map Builtin.Re.reRawOf
    rw [List.map_map] at q
    exact q
  have hsz : vs.length ≤ sizeLine := by rw [hvl, sizeLine_eq]; omega
  refine wpAny_bind (wpAny_newList ?_ hsz)
  have hoL : (s1.heap.push (seqObj "list" vs.toArray 0)).get? s1.heap.objs.size = some (seqObj "list" vs.toArray 0) := Heap.get?_push_size _ rfl
  refine wpAny_bind (wpAny_holding (wpAny_call_entry slot_list_sort ⟨_, hoL, rfl⟩ entry_list_sort (SrtO.list_sort_ord (s := { s1 with heap := s1.heap.push (seqObj "list" vs.toArray 0) }) SrtO.swo_int hoL hsz (fun h2 => SrtO.ints_sortable hI h2) fun out hs hb2 => ⟨_, rfl, ?_⟩) (args_list_sort _)))
  obtain ⟨m1, m2, m3⟩ := SrtO.ints_out hI hs hb2
  obtain ⟨c, hc⟩ := sortedHeap_at (vs := vs) (out := out.toArray) hoL
  have pn : (out.map SrtO.iv).Perm (es.toList.map keyOf) := m2.trans pk
  refine wpAny_pure ⟨_, rfl, hQ _ s1.heap.objs.size out c (out.map SrtO.iv) (fun b u e => ?_) g1 o1 hz hc m1 (lt_of_le_nodup _ m3 (pn.nodup_iff.mpr nd)) (fun k => by rw [pn.mem_iff, ← hm k]) ?_⟩
  · have q := k1 b u e
    have hlt := Heap.lt_size q
    show (sortedHeap (s1.heap.push (seqObj "list" vs.toArray 0)) s1.heap.objs.size vs out.toArray).get? b = some u
    rw [sortedHeap_old (Nat.ne_of_lt hlt) (by rw [size_push']; exact Nat.lt_succ_of_lt hlt)]
    exact Heap.get?_push_of_some _ q
  · rw [pn.length_eq, List.length_map, Array.length_toList]; exact hn
end
end L2
namespace PL
open PySem PySem.Spec PyProof.Rows L2
/-! ### the plain side -/
theorem mem_insU {x y : Int} : ∀ {l : List Int}, y ∈ insU x l ↔ y = x ∨ y ∈ l
  | [] => by simp [insU]
  | z :: r => by
    unfold insU
    split
    · simp
    · split
      · rename_i h1 h2; subst h2; simp
      · rw [List.mem_cons, mem_insU (l := r), List.mem_cons]
        constructor
        · rintro (h | h | h)
          · exact .inr (.inl h)
          · exact .inl h
          · exact .inr (.inr h)
        · rintro (h | h | h)
          · exact .inr (.inl h)
          · exact .inl h
          · exact .inr (.inr h)
theorem mem_sortU {y : Int} : ∀ {l : List Int}, y ∈ sortU l ↔ y ∈ l
  | [] => by simp [sortU]
  | x :: r => by
    show y ∈ insU x (sortU r) ↔ _
    rw [mem_insU, mem_sortU (l := r), List.mem_cons]
theorem asc_insU {x : Int} : ∀ {l : List Int}, l.Pairwise (· < ·) → (insU x l).Pairwise (· < ·)
  | [], _ => by simp [insU]
  | z :: r, h => by
    obtain ⟨h1, h2⟩ := List.pairwise_cons.mp h
    unfold insU
    split
    · rename_i hl
      refine List.pairwise_cons.mpr ⟨fun y hy => ?_, h⟩
      rcases List.mem_cons.mp hy with rfl | hy
      · exact hl
      · exact Int.lt_trans hl (h1 y hy)
    · split
      · exact h
      · refine List.pairwise_cons.mpr ⟨fun y hy => ?_, asc_insU h2⟩
        rcases mem_insU.mp hy with rfl | hy
        · omega
        · exact h1 y hy
theorem asc_sortU : ∀ (l : List Int), (sortU l).Pairwise (· < ·)
  | [] => List.Pairwise.nil
  | x :: r => asc_insU (asc_sortU r)
theorem asc_eq : ∀ {l m : List Int}, l.Pairwise (· < ·) → m.Pairwise (· < ·) → (∀ y, y ∈ l ↔ y ∈ m) → l = m
  | [], [], _, _, _ => rfl
  | [], y :: m, _, _, h => absurd ((h y).mpr List.mem_cons_self) (by simp)
  | x :: l, [], _, _, h => absurd ((h x).mp List.mem_cons_self) (by simp)
  | x :: l, y :: m, h1, h2, h => by
    obtain ⟨a1, a2⟩ := List.pairwise_cons.mp h1
    obtain ⟨b1, b2⟩ := List.pairwise_cons.mp h2
    have e : x = y := by
      rcases List.mem_cons.mp ((h x).mp List.mem_cons_self) with e | hx
      · exact e
      · rcases List.mem_cons.mp ((h y).mpr List.mem_cons_self) with e | hy
        · exact e.symm
        · have := b1 x hx
          have := a1 y hy
          omega
    subst e
    rw [asc_eq a2 b2 fun z => ⟨fun hz => ?_, fun hz => ?_⟩]
    · rcases List.mem_cons.mp ((h z).mp (List.mem_cons_of_mem _ hz)) with e | hz2
      · have := a1 z hz; omega
      · exact hz2
    · rcases List.mem_cons.mp ((h z).mpr (List.mem_cons_of_mem _ hz)) with e | hz2
      · have := b1 z hz; omega
      · exact hz2
/-! ### sorted(set(xs)), len(set(xs)) -/
section
variable {X : Cx} {W : WX} {a : Expr} {p p2 q pos : Pos} {fa : Env → Res (RV × Env)}
/-- set of a list or a tuple of ints -/
def tSrcS (K : PySem.W.Frag) (ta : TE) (R : List Int → Hp → VK → Prop) : TE := fun σ H Q => ta σ H fun x H1 => ∃ (l : Addr) (ns : List Int), x = .ref l ∧ (SqL K H1 l (ns.map V.int) ∨ SqT K H1 l (ns.map V.int)) ∧ ns.length ≤ 4000 ∧ R ns H1 Q
theorem set_ok {pins : List (Addr × Obj)} {s : Shared} {σ : L2.St} {H : Hp} {l : Addr} {ns : List Int} {Q E : Value → Shared → Prop} (hc : X.calm = true) (I : Inv X pins σ H s) (hq : SqL X.K H l (ns.map V.int) ∨ SqT X.K H l (ns.map V.int)) (hl : ns.length ≤ 4000)
    (h : ∀ (s' : Shared) (a : Addr), Inv X pins σ H s' → SetR X.w s'.heap a (fun j => decide (j ∈ ns)) (sortU ns).length → Q (.ref a) s') : wpAny (model X.prog X.w) X.A (call (.type "set") [.ref l]) Q E s := by
  have fin : ∀ (h' : Heap) (tk c : Nat), SetR X.w h' s.heap.objs.size (fun j => decide (j ∈ ns)) c → c ≤ ns.length → (∀ b o, s.heap.get? b = some o → h'.get? b = some o) → Q (.ref s.heap.objs.size) { s with heap := h', toks := tk } := fun h' tk c hS hcl hk => by
    refine h { s with heap := h', toks := tk } _ (I.kept hk) ?_
    have e : c = (sortU ns).length := by
      obtain ⟨o, es, ep, t, ho, hex, hd, g, nd, hm, hb, hf, hn, hr, hl⟩ := hS
      have pp : (es.toList.map keyOf).Perm (sortU ns) := (List.perm_ext_iff_of_nodup nd ((asc_sortU ns).imp fun h => Int.ne_of_lt h)).mpr fun k => by
        rw [← hm k, mem_sortU]
        exact decide_eq_true_iff
      rw [← pp.length_eq, List.length_map, Array.length_toList]
      exact hn.symm
    rw [← e]
    exact hS
  rcases hq with hq | hq
  · obtain ⟨its, r, pl, hz⟩ := I.list hq
    exact call_set_listI ns (I.ok.hd hc) pl.isList (by simpa using r.ints) (by unfold scanBound; omega) fin
  · obtain ⟨its, r, hT, hz⟩ := I.tuple hq
    exact call_set_tupI ns (I.ok.hd hc) hT (by simpa using r.ints) (by unfold scanBound; omega) fin
theorem pe_sortedSet {ta : TE} (hc : X.calm = true) (hg : Gl X "sorted") (hm : X.mg "sorted" = none) (hg2 : Gl X "set") (hm2 : X.mg "set" = none) (ha : PE X a ta)
    (na : starEach [a] X.env = (false, eval a X.env) :: starEach [] X.env := by rfl) : PE X (.Call (.Name "sorted" p) [.Call (.Name "set" p2) [a] [] q] [] pos) (tSrcS X.K ta fun ns H Q => ∀ p, H p = none → Q (.ref p) (upd H p (.lst ((sortU ns).map V.int)))) := by
  refine ⟨fun pins s σ H Q I h => ?_⟩
  refine Call_ (ld_blt I hg hm boot_sorted ?_)
  refine PyProof.Rows.callWith_builtin1 (PyProof.Rows.args_cons ?_ rfl) rfl rfl
  refine Call_ (ld_blt I hg2 hm2 boot_set ?_)
  refine PyProof.Rows.callWith_type1 (PyProof.Rows.args_cons (thn (ha.run pins s σ H _ I h) fun v s1 ⟨x, H1, I1, r1, q1⟩ => PyProof.Rows.args_nil ?_) na) na rfl
  obtain ⟨l, ns, rfl, hq, hl, q1⟩ := q1
  cases r1
  refine set_ok hc I1 hq hl fun s2 b I2 R => ?_
  refine PyProof.Rows.args_nil ?_
  have hlen : (sortU ns).length ≤ 4000 := by
    have : ∀ l : List Int, (sortU l).length ≤ l.length := by
      intro l
      induction l with
      | nil => exact Nat.le_refl _
      | cons x r ih =>
        have : ∀ (x : Int) (l : List Int), (insU x l).length ≤ l.length + 1 := by
          intro x l
          induction l with
          | nil => exact Nat.le_refl _
          | cons y r ih2 =>
            unfold insU
            split
            · simp
            · split
              · simp
              · simp; exact ih2
        exact Nat.le_trans (this x (sortU r)) (Nat.succ_le_succ ih)
    exact Nat.le_trans (this ns) hl
  refine sorted_setU R (I2.ok.hd hc) hlen fun s' p out c ms k g o hp hg hi hs hm hl => ?_
  have e : ms = sortU ns := asc_eq hs (asc_sortU ns) fun y => by
    rw [hm y, mem_sortU]
    exact decide_eq_true_iff
  subst e
  have hlen2 : ((sortU ns).map V.int).length ≤ sizeLine := by rw [List.length_map, sizeLine_eq]; omega
  have hn : H1 p = none := I2.hok.fresh hp
  have J : Inv X pins σ (upd H1 p (.lst ((sortU ns).map V.int))) { s2 with heap := s'.heap, gens := s'.gens, drawn := s'.drawn, toks := s'.toks } :=
    I2.call (ch := []) (Un.laid k hp hn) (I2.hok.laid k hp ⟨hlen2, out, c, vals_of_ints hi, hg⟩) (by rw [g]; exact I2.bare) (fun _ z => nomatch z)
  have e : s' = { s2 with heap := s'.heap, gens := s'.gens, drawn := s'.drawn, toks := s'.toks } := by
    cases s'
    cases s2
    cases o
    rfl
  rw [e]
  exact ⟨.ref p, _, J, rfl, q1 p hn⟩
theorem pe_lenSetU {ta : TE} (hc : X.calm = true) (hg : Gl X "len") (hm : X.mg "len" = none) (hg2 : Gl X "set") (hm2 : X.mg "set" = none) (ha : PE X a ta)
    (na : starEach [a] X.env = (false, eval a X.env) :: starEach [] X.env := by rfl) : PE X (.Call (.Name "len" p) [.Call (.Name "set" p2) [a] [] q] [] pos) (tSrcS X.K ta fun ns H Q => Q (.int (sortU ns).length) H) := by
  refine ⟨fun pins s σ H Q I h => ?_⟩
  refine Call_ (ld_blt I hg hm PySem.boot_len ?_)
  refine PyProof.Rows.callWith_builtin1 (PyProof.Rows.args_cons ?_ rfl) rfl rfl
  refine Call_ (ld_blt I hg2 hm2 boot_set ?_)
  refine PyProof.Rows.callWith_type1 (PyProof.Rows.args_cons (thn (ha.run pins s σ H _ I h) fun v s1 ⟨x, H1, I1, r1, q1⟩ => PyProof.Rows.args_nil ?_) na) na rfl
  obtain ⟨l, ns, rfl, hq, hl, q1⟩ := q1
  cases r1
  refine set_ok hc I1 hq hl fun s2 b I2 R => ?_
  refine PyProof.Rows.args_nil ?_
  obtain ⟨o, es, ep, t, ho, hex, hd, g, nd, hm, hb, hf, hn, hr, hl2⟩ := R
  refine call_len_set ho hex hd hf (by have : es.size < 4096 := hb; omega) ⟨.int (sortU ns).length, H1, I2.tok _, ⟨_, by rw [hn]⟩, q1⟩
end
end PL
set_option Elab.async false
set_option linter.all false
set_option maxRecDepth 100000
set_option maxHeartbeats 1000000
namespace PL
open PySem PySem.Spec PyProof.Rows L2
section
variable {X : Cx} {W : WX} {a : Expr} {p p2 q pos : Pos} {fa fk fv : Env → Res (RV × Env)} {ke ve : Expr}
abbrev fSset (f : Str) (fa : Env → Res (RV × Env)) : Env → Res (RV × Env) := fun env => (fa env).bind fun r => (optR (rd r.2 r.1)).bind fun x => (optR (ssetV f x)).bind fun v => .ok (mkV v, unb r.1 r.2)
theorem rps_ints {K : PySem.W.Frag} {mg : Str → Option Value} {S : Hp} : ∀ (ns : List Int), Rps K mg S (ns.map V.int) (ns.map PV.int)
  | [] => Rps.nil
  | n :: ns => Rps.cons (Rp.int n) (rps_ints ns)
theorem sset_src {f : Str} {R : List Int → Hp → VK → Prop} (hR : ∀ {σ : SlotV} {H S : Hp} {As : Fp} {Q : VK} {v : V} {rv : RV} {env1 : Env} {H1 S1 : Hp} {As1 : Fp} {B1 : List Addr} {ns : List Int} {vr : VR}, Stp H S As H1 S1 As1 → Rel X.K X.mg σ env1 H1 S1 As1 → RvOk X.K X.mg σ H1 S1 As1 v rv B1 → (∀ b ∈ B1, H b = none ∨ Own As b) →
      ssetI f ns = some vr → KE X.K X.mg σ H S As Q (mkV vr) (unb rv env1) → R ns H1 Q) {σ : SlotV} {H : Hp} {Q : VK} (h : liftE X.K X.mg W (fSset f fa) σ H Q) : tSrcS X.K (liftE X.K X.mg W fa) R σ H Q := by
  obtain ⟨env, S, As, Rl, h⟩ := h
  refine liftE.mono (bindE Stp.refl Rl h) ?_
  rintro v H1 ⟨rv, env1, S1, As1, B1, st1, R1, ok1, fr1, h1⟩
  obtain ⟨x, e1, h1⟩ := h1.opt
  have hx := R1.rd ok1 e1
  obtain ⟨vr, e2, h1⟩ := h1.opt
  have kk : KE X.K X.mg σ H S As Q (mkV vr) (unb rv env1) := h1
  clear h1
  have len4 : ∀ {ns : List Int}, ssetI f ns = some vr → ns.length ≤ 4000 := fun e => by
    unfold ssetI at e
    split at e
    · assumption
    · cases e
  unfold ssetV at e2
  split at e2
  · obtain ⟨a', vs, rfl, t, m⟩ := hx
    cases e3 : asInts _ with
    | none => rw [e3] at e2; cases e2
    | some ns =>
      rw [e3] at e2
      have ew := m.asInts e3
      subst ew
      exact ⟨a', ns, rfl, .inl (SqL.of t), len4 e2, hR st1 R1 ok1 fr1 e2 kk⟩
  · obtain ⟨a', vs, rfl, t, m⟩ := rp_tup (show Rp X.K X.mg S1 v (.tup _) from hx)
    cases e3 : asInts _ with
    | none => rw [e3] at e2; cases e2
    | some ns =>
      rw [e3] at e2
      have ew := m.asInts e3
      subst ew
      refine ⟨a', ns, rfl, .inr (Same.sqT R1.sub t), len4 e2, hR st1 R1 ok1 fr1 e2 kk⟩
  · cases e2
theorem le_ssetS (hc : X.calm = true) (hg : Gl X "sorted") (hm : X.mg "sorted" = none) (hg2 : Gl X "set") (hm2 : X.mg "set" = none) (ha : LE X W a fa)
    (na : starEach [a] X.env = (false, eval a X.env) :: starEach [] X.env) : LE X W (.Call (.Name "sorted" p) [.Call (.Name "set" p2) [a] [] q] [] pos) (fSset "sorted" fa) := by
  refine PE.imp (pe_sortedSet hc hg hm hg2 hm2 ha na) fun σ H Q h => sset_src (f := "sorted") (fun {σ H S As Q v rv env1 H1 S1 As1 B1 ns vr} st1 R1 ok1 fr1 e k => ?_) h
  intro z hz
  unfold ssetI at e
  split at e
  · rw [if_pos rfl] at e
    cases e
    exact finU (vr := .lst ((sortU ns).map .int)) (rs := [rv]) st1 R1 (rvs1 ok1) (nil_fr fr1) ⟨z, _, rfl, hz, rfl, rps_ints _⟩ k
  · cases e
theorem le_ssetL (hc : X.calm = true) (hg : Gl X "len") (hm : X.mg "len" = none) (hg2 : Gl X "set") (hm2 : X.mg "set" = none) (ha : LE X W a fa)
    (na : starEach [a] X.env = (false, eval a X.env) :: starEach [] X.env) : LE X W (.Call (.Name "len" p) [.Call (.Name "set" p2) [a] [] q] [] pos) (fSset "len" fa) := by
  refine PE.imp (pe_lenSetU hc hg hm hg2 hm2 ha na) fun σ H Q h => sset_src (f := "len") (fun {σ H S As Q v rv env1 H1 S1 As1 B1 ns vr} st1 R1 ok1 fr1 e k => ?_) h
  unfold ssetI at e
  split at e
  · rw [if_neg (by decide), if_pos rfl] at e
    cases e
    exact finU (vr := .sc (.int (sortU ns).length)) (rs := [rv]) st1 R1 (rvs1 ok1) (nil_fr fr1) ⟨rfl, Rp.int _⟩ k
  · cases e
/-! ### {k: v} -/
abbrev fDsp (b : Bool) (fk fv : Env → Res (RV × Env)) : Env → Res (RV × Env) := fun env => (fk env).bind fun q => (optR (take q.1 q.2)).bind fun q => (optR (keyP b q.1)).bind fun y => (fv q.2).bind fun w => (optR (take w.1 w.2)).bind fun w => match b with
    | false => .ok (.new (.dct false (dPut [] y w.1)), w.2)
    | true => .stuck
theorem le_dsp (b : Bool) (hk : LE X W ke fk) (hv : LE X W ve fv) : LE X W (.Dict [some ke] [ve] pos) (fDsp b fk fv) := by
  refine PE.imp (pe_disp (pps_cons hk hv pps_nil) rfl rfl (by simp) (by simp)) fun σ H Q h => ?_
  obtain ⟨env, S, As, R, h⟩ := h
  intro p hp
  obtain ⟨R3, st3⟩ := R.layN (o := .dK []) hp
  have mk0 : RvOk X.K X.mg σ (upd H p (.dK [])) S As (.ref p) (.new (.dct false [])) [p] := ⟨by unfold CellOk; exact ⟨p, [], rfl, ⟨[], upd_same, rfl⟩, (by unfold Rpd; rfl), rfl⟩, fun b hb => by
    obtain rfl : b = p := by simpa using hb
    exact ⟨fun z => R.there z hp, R.sub.free hp⟩⟩
  refine liftE.mono (bindE st3 R3 h) ?_
  rintro x H1 ⟨rv, env1, S1, As1, B1, st1, R1, ok1, fr1, h1⟩
  obtain ⟨⟨kp, e5⟩, h5, h1⟩ := h1.opt
  obtain ⟨S8, As8, R8, st8, rp8, sm8, _⟩ := take_ok R1 ok1 st1 fr1 h5
  obtain ⟨ky, h6, h1⟩ := h1.opt
  refine liftE.mono (bindE (st3.trans st8) R8 h1) ?_
  rintro y H2 ⟨rv2, env2, S2, As2, B2, st2, R2, ok2, fr2, h2⟩
  obtain ⟨⟨wq, e6⟩, h8, h2⟩ := h2.opt
  obtain ⟨S10, As10, R10, st10, rp10, sm10, _⟩ := take_ok R2 ok2 st2 fr2 h8
  have mk10 := (mk0.stp st8).stp st10
  cases b with
  | true => exact False.elim h2
  | false =>
    have h2 : KE X.K X.mg σ H S As Q (.new (.dct false (dPut [] ky wq))) e6 := h2
    obtain ⟨hc, hn⟩ := mk10
    unfold CellOk at hc
    obtain ⟨a', ws, ea, d1, d2, _⟩ := hc
    cases ea
    have n10 := hn p List.mem_cons_self
    obtain ⟨o, ws', dp, dh, rr⟩ := dput_ok d1 d2 (Rp.mono (st10.same.trans R10.sub) _ _ rp8) h6 rp10 (by show 0 < sizeLine; rw [sizeLine_eq]; omega)
    obtain ⟨ks, hks, hws⟩ := d1
    have hws0 : ws = [] := by unfold Rpd at d2; exact d2
    have hks0 : ks = [] := by
      rw [hws0] at hws
      cases ks with
      | nil => rfl
      | cons z r => cases hws
    subst hks0
    obtain ⟨R12, st12⟩ := mk_push (o := o) n10.1 n10.2 R10 hp ((st3.trans st8).trans st10)
    refine ⟨hks, ?_⟩
    rcases dp with ⟨kvs, k, e, ey, l, eH⟩ | ⟨kvs, k, b, e, ey, eb, l, eH⟩
    · rw [hks] at e
      cases e
      refine ⟨[(k, y)], by rw [ey]; rfl, by simp, ?_⟩
      have eo : upd H2 p (.dK (mergeK [] [(k, y)])) = upd H2 p o := eH.symm
      rw [eo]
      exact h2 _ _ _ _ [p] st12 R12 ⟨by unfold CellOk; exact ⟨p, ws', rfl, by rw [upd_same]; exact dh, rr, rfl⟩, hn⟩ fun b hb => by
        obtain rfl : b = p := by simpa using hb
        exact .inl hp
    · rw [hks] at e
      cases e
end
end PL
set_option Elab.async false
set_option linter.all false
set_option maxRecDepth 100000
set_option maxHeartbeats 1000000
namespace PL
open PySem PySem.Spec PyProof.Rows L2
/-! ### from the text to the tree -/
structure Cfg where
  fns : List Str
  lent : List Str
  excs : List Str
  wds : List Str := []
  /-- classes that an except may name -/
  xcs : List Str := []
  /-- where comprehensions own their items; where dicts have tuples for keys; where things are taken -/
  lns : List (Nat × Nat) := []
  dts : List (Nat × Nat) := []
  frs : List (Nat × Nat) := []
  /-- new dicts that are locked for good -/
  lks : List (Nat × Nat) := []
  /-- calls with fewer arguments: the name, how many are written, the defaults behind them -/
  dfs : List (Str × Nat × List PV) := []
  /-- fields, own classes that are made, methods -/
  flds : List Str := []
  cls : List Str := []
  mets : List Str := []
def Cfg.dfl (c : Cfg) (f : Str) : List (List PV) := (c.dfs.filter fun e => e.1 == f).map fun e => e.2.2
def dfOf (c : Cfg) (f : Str) (n : Nat) : Option (List PV) := (c.dfs.find? fun e => e.1 == f && e.2.1 == n).map fun e => e.2.2
def atP (l : List (Nat × Nat)) (p : Pos) : Bool := l.contains (p.line, p.col)
def frzI (b : Bool) (e : E) : E := match b with
  | true => .frz e
  | false => e
def lckI (b : Bool) (e : E) : E := match b with
  | true => .lck e
  | false => e
def isM1 : Expr → Bool
  | .UnaryOp .USub (.Constant (.int i) _ _) _ => i == 1
  | _ => false
def ixOf : List Str → Str → Nat → Option Nat
  | [], _, _ => none
  | y :: r, x, k => if x == y then some k else ixOf r x (k + 1)
def visB (sc : Scope) (x : Str) : Bool := match sc.names.lookup x with
  | some .local => true
  | some .cell => true
  | some .free => true
  | _ => false
def locB (sc : Scope) (x : Str) : Bool := match sc.names.lookup x with
  | some .local => true
  | some .cell => true
  | _ => false
def onlyB (sc : Scope) (x : Str) : Bool := match sc.names.lookup x with
  | some .local => true
  | _ => false
def glB (sc : Scope) (x : Str) : Bool := match sc.names.lookup x with
  | some .globalImplicit => true
  | _ => false
def plainName (x : Str) : Bool := !(x == ("__debug__" : Str)) && !(x == ("__classdict__" : Str)) && !(x == ("__name__" : Str))
def isStar : Expr → Bool
  | .Starred _ _ => true
  | _ => false
def noStar (es : List Expr) : Bool := es.all fun e => !isStar e
def isComp : Expr → Bool
  | .ListComp .. => true
  | .SetComp .. => true
  | .DictComp .. => true
  | _ => false
def isDictC : Expr → Bool
  | .DictComp .. => true
  | _ => false
def isSetE : Expr → Bool
  | .Set .. => true
  | _ => false
def isSlice : Expr → Bool
  | .Slice .. => true
  | _ => false
def bopOf : Operator → Option Bop
  | .Add => some .add | .Sub => some .sub | .Mult => some .mul | .FloorDiv => some .fdiv | .Mod => some .mod | .Pow => some .pow
  | .LShift => some .shl | .RShift => some .shr | .BitAnd => some .band | .BitOr => some .bor | .BitXor => some .bxor
  | _ => none
def copOf : CmpOp → Cop
  | .Eq => .eq | .NotEq => .ne | .Lt => .lt | .LtE => .le | .Gt => .gt | .GtE => .ge | .Is => .is | .IsNot => .isn | .In => .mem | .NotIn => .nmem
theorem opOf_bop {o : Operator} {b : Bop} (h : bopOf o = some b) : opOf b = o := by
  cases o <;> cases b <;> first | rfl | cases h
theorem cpOf_cop (o : CmpOp) : cpOf (copOf o) = o := by cases o <;> rfl
def mkEs : List E → Es
  | [] => .nil
  | e :: r => .cons e (mkEs r)
def mkTgs : List Tg → Tgs
  | [] => .nil
  | e :: r => .cons e (mkTgs r)
def allO {α : Type} : List (Option α) → Option (List α)
  | [] => some []
  | some a :: r => (allO r).map (a :: ·)
  | none :: _ => none
def conOf : Const → Option PV
  | .none => some .non
  | .bool b => some (.bl b)
  | .int i => some (.int i)
  | .str x => some (.str x)
  | _ => none
def tyNames : List Str := ["int", "bool", "str", "tuple", "list", "dict"]
def tyOf (x : Str) : Option String :=
  if x == ("int" : Str) then some "int" else if x == ("bool" : Str) then some "bool" else if x == ("str" : Str) then some "str" else if x == ("tuple" : Str) then some "tuple"
  else if x == ("list" : Str) then some "list" else if x == ("dict" : Str) then some "dict" else none
/-- the slots of a block's own names -/
def ownOf (N : List Str) (scope : Scope) : List (Str × Nat) := scope.names.filterMap fun (n, k) => match k with
  | .local => (ixOf N n 0).map fun i => (n, i)
  | .cell => (ixOf N n 0).map fun i => (n, i)
  | _ => none
def subsetB (is js : List Nat) : Bool := is.all fun i => js.contains i
section
variable (N : List Str)
/-- plain targets -/
def trTg (sc : Scope) (fb : Str → Bool) : Nat → Expr → Option Tg
  | 0, _ => none
  | n + 1, e => match e with
    | .Name x _ => if locB sc x && (fb x || onlyB sc x) then (ixOf N x 0).map .nm else none
    | .Tuple es _ _ => if noStar es then (allO (es.map (trTg sc fb n))).map fun ts => .tup (mkTgs ts) else none
    | _ => none
/-- what is walked -/
def isTupE : Expr → Bool
  | .Tuple .. => true
  | _ => false
def itE (tr : Expr → E) (sc : Scope) (tg e : Expr) : E := match e with
  | .Call (.Name f _) [a] [] _ => if f == ("range" : Str) then (if glB sc f && noStar [a] then .blt f (mkEs [tr a]) else .bad)
    else if f == ("enumerate" : Str) then (if glB sc f && noStar [a] && isTupE tg then .blt f (mkEs [tr a]) else .bad) else tr e
  | .Call (.Name f _) [a, b] [] _ => if f == ("range" : Str) then (if glB sc f && noStar [a, b] then .blt f (mkEs [tr a, tr b]) else .bad)
    else if f == ("zip" : Str) then (if glB sc f && noStar [a, b] && isTupE tg then .blt f (mkEs [tr a, tr b]) else .bad) else tr e
  | .Call (.Name f _) [a, b, d] [] _ => if f == ("range" : Str) then (if glB sc f && noStar [a, b, d] then .blt f (mkEs [tr a, tr b, tr d]) else .bad) else tr e
  | e => tr e
def isRZ : Expr → Bool
  | .Call (.Name f _) [_] [] _ => f == ("range" : Str) || f == ("enumerate" : Str)
  | .Call (.Name f _) [_, _] [] _ => f == ("range" : Str) || f == ("zip" : Str)
  | .Call (.Name f _) [_, _, _] [] _ => f == ("range" : Str)
  | _ => false
/-- .. nothing borrowed meanwhile -/
def itF (tr : Expr → E) (sc : Scope) (tg e : Expr) : E := if isRZ e = true then itE tr sc tg e else .frz (tr e)
def tstE (tr : Expr → E) : List Expr → E
  | [] => .con (.bl true)
  | [i] => tr i
  | _ => .bad
def cellB (scope : Scope) (x : Str) : Bool := scope.names.lookup x == some .cell
def parE (tr : Expr → E) : Option Expr → E
  | none => .con .non
  | some a => match tr a with
    | .con .non => .bad
    | e => e
def andE : List E → E
  | [] => .bad
  | [a] => a
  | a :: r => .and a (andE r)
def orE : List E → E
  | [] => .bad
  | [a] => a
  | a :: r => .or a (orE r)
def isSuper : Expr → Bool
  | .Call (.Name x _) [] [] _ => x == ("super" : Str)
  | _ => false
def isCall : Expr → Bool
  | .Call .. => true
  | _ => false
variable (c : Cfg)
/-- calls of two built-ins, one in the other -/
def spE (tr : Expr → E) (sc : Scope) (f : Str) (a : Expr) (es : List Expr) : Option E := match a, es with
  | .Call (.Name g _) [x] [] _, [] => if plainName f && glB sc f && glB sc g && !isStar x then
      (if g == ("set" : Str) && (f == ("sorted" : Str) || f == ("len" : Str)) then some (.sset f (tr x))
       else if g == ("range" : Str) && (f == ("list" : Str) || f == ("tuple" : Str)) then some (.seq f (.blt g (mkEs [tr x]))) else none) else none
  | _, _ => none
/-- the other calls of a name -/
def gcE (tr : Expr → E) (sc : Scope) (f : Str) (a : Expr) (es : List Expr) : E := if plainName f && glB sc f && noStar (a :: es) then
    (if c.fns.contains f then
      (if c.lent.contains f then (match a with
        | .Name y _ => if plainName y && visB sc y then (match ixOf N y 0 with | some i => .calm f i (mkEs (es.map (tr))) | none => .bad) else .bad
        | _ => .bad)
      else match dfOf c f (a :: es).length with
        | some dp => .call f (mkEs ((a :: es).map (tr) ++ dp.map .con))
        | none => .call f (mkEs ((a :: es).map (tr))))
    else if c.cls.contains f then .mk f (mkEs ((a :: es).map (tr)))
    else if blts.contains f then .blt f (mkEs ((a :: es).map (tr)))
    else .bad) else .bad
def trE : Nat → Scope → (Str → Bool) → Expr → E
  | 0, _, _, _ => .bad
  | n + 1, sc, fb, e => frzI (atP c.frs e.pos) (lckI (atP c.lks e.pos) (match e with
    | .Name x _ => if plainName x then
        (if visB sc x then (match ixOf N x 0 with | some i => .var i | none => .bad)
         else if glB sc x then (match tyOf x with | some T => .con (.ty T) | none => .gco x) else .bad) else .bad
    | .Constant k _ _ => match conOf k with
      | some p => .con p
      | none => .bad
    | .BinOp a o b _ => match bopOf o with
      | some o => .bop o (trE n sc fb a) (trE n sc fb b)
      | none => .bad
    | .UnaryOp .USub a _ => .neg (trE n sc fb a)
    | .UnaryOp .Not a _ => .not (trE n sc fb a)
    | .BoolOp .And (a :: b :: r) _ => .and (trE n sc fb a) (andE ((b :: r).map (trE n sc fb)))
    | .BoolOp .Or (a :: b :: r) _ => .or (trE n sc fb a) (orE ((b :: r).map (trE n sc fb)))
    | .Compare a [o] [b] _ => if behindInMarks o b then .bad else .cmp (copOf o) (trE n sc fb a) (trE n sc fb b)
    | .Compare a [o, o'] [b, d] _ => if lastMarks [o, o'] [b, d] then .bad else .chn (copOf o) (copOf o') (trE n sc fb a) (trE n sc fb b) (trE n sc fb d)
    | .Compare a [o, o', o''] [b, d, g] _ => if lastMarks [o, o', o''] [b, d, g] then .bad else .chn3 (copOf o) (copOf o') (copOf o'') (trE n sc fb a) (trE n sc fb b) (trE n sc fb d) (trE n sc fb g)
    | .IfExp t a b _ => .ite (trE n sc fb t) (trE n sc fb a) (trE n sc fb b)
    | .Tuple es _ _ => if noStar es && decide (es.length ≤ 1000) then .tup (mkEs (es.map (trE n sc fb))) else .bad
    | .List es _ => if noStar es && decide (es.length ≤ 1000) then .lst (mkEs (es.map (trE n sc fb))) else .bad
    | .Subscript o (.Slice lo hi none _) _ => .sl (trE n sc fb o) (parE (trE n sc fb) lo) (parE (trE n sc fb) hi)
    | .Subscript o (.Slice none none (some st) _) _ => if isM1 st then .rev (trE n sc fb o) else .bad
    | .Subscript o i _ => if isSlice i then .bad else .ix (trE n sc fb o) (trE n sc fb i)
    | .Call (.Name f _) (a :: es) [] _ => (match spE (trE n sc fb) sc f a es with
      | some e => e
      | none => gcE N c (trE n sc fb) sc f a es)
    | .Call (.Attribute o m ap) [] [] cp => if isCall o then .bad else if mths.contains m && (ap.endLine == cp.line) then .mth m (trE n sc fb o) .nil
        else if c.mets.contains m && (ap.endLine == cp.line) then .omt m (trE n sc fb o) .nil else .bad
    | .Call (.Attribute o m ap) (a :: es) [] cp => if isCall o || !noStar (a :: es) then .bad else if mths.contains m && (ap.endLine == cp.line) && decide ((a :: es).length < 30) then .mth m (trE n sc fb o) (mkEs ((a :: es).map (trE n sc fb)))
        else if c.mets.contains m && (ap.endLine == cp.line) && decide ((a :: es).length < 30) then .omt m (trE n sc fb o) (mkEs ((a :: es).map (trE n sc fb))) else .bad
    | .Attribute o f _ => if c.flds.contains f && !isSuper o then .att (trE n sc fb o) f else .bad
    | .ListComp e [⟨tg, it, ifs, 0⟩] scope p =>
      (match trTg N (relS scope sc) (cellB scope) n tg with
      | some t => if blkC N sc scope (ownOf N scope) && subsetB (tgs t) ((ownOf N scope).map (·.2)) && !isSetE it then
          (if atP c.lns p = true then .ln ((ownOf N scope).map (·.2)) t (itE (trE n sc fb) sc tg it) (tstE (trE n (relS scope sc) (cellB scope)) ifs) (trE n (relS scope sc) (cellB scope) e)
          else .lc ((ownOf N scope).map (·.2)) t (itE (trE n sc fb) sc tg it) (tstE (trE n (relS scope sc) (cellB scope)) ifs) (trE n (relS scope sc) (cellB scope) e)) else .bad
      | none => .bad)
    | .ListComp e [⟨tg, it, ifs, 0⟩, ⟨tg1, it1, ifs1, 0⟩] scope _ =>
      (match trTg N (relS scope sc) (cellB scope) n tg, trTg N (relS scope sc) (cellB scope) n tg1 with
      | some t, some t1 => if blkC N sc scope (ownOf N scope) && subsetB (tgs t) ((ownOf N scope).map (·.2)) && subsetB (tgs t1) ((ownOf N scope).map (·.2)) && !isSetE it && !isSetE it1 then
          .lc2 ((ownOf N scope).map (·.2)) (tgs t1) t (itE (trE n sc fb) sc tg it) (tstE (trE n (relS scope sc) (cellB scope)) ifs) t1 (itF (trE n (relS scope sc) (cellB scope)) (relS scope sc) tg1 it1)
            (tstE (trE n (relS scope sc) (cellB scope)) ifs1) (trE n (relS scope sc) (cellB scope) e) else .bad
      | _, _ => .bad)
    | .DictComp kx vx [⟨tg, it, ifs, 0⟩] scope p =>
      (match trTg N (relS scope sc) (cellB scope) n tg with
      | some t => if blkC N sc scope (ownOf N scope) && subsetB (tgs t) ((ownOf N scope).map (·.2)) && !isSetE it then
          .dc (atP c.dts p) ((ownOf N scope).map (·.2)) t (itE (trE n sc fb) sc tg it) (tstE (trE n (relS scope sc) (cellB scope)) ifs) (trE n (relS scope sc) (cellB scope) kx) (trE n (relS scope sc) (cellB scope) vx) else .bad
      | none => .bad)
    | .DictComp kx vx [⟨tg, it, ifs, 0⟩, ⟨tg1, it1, ifs1, 0⟩] scope p =>
      (match trTg N (relS scope sc) (cellB scope) n tg, trTg N (relS scope sc) (cellB scope) n tg1 with
      | some t, some t1 => if blkC N sc scope (ownOf N scope) && subsetB (tgs t) ((ownOf N scope).map (·.2)) && subsetB (tgs t1) ((ownOf N scope).map (·.2)) && !isSetE it && !isSetE it1 then
          .dc2 (atP c.dts p) ((ownOf N scope).map (·.2)) (tgs t1) t (itE (trE n sc fb) sc tg it) (tstE (trE n (relS scope sc) (cellB scope)) ifs) t1 (itF (trE n (relS scope sc) (cellB scope)) (relS scope sc) tg1 it1)
            (tstE (trE n (relS scope sc) (cellB scope)) ifs1) (trE n (relS scope sc) (cellB scope) kx) (trE n (relS scope sc) (cellB scope) vx) else .bad
      | _, _ => .bad)
    | .Dict [] [] p => .dnew (atP c.dts p)
    | .Dict [some ke] [ve] p => .dsp (atP c.dts p) (trE n sc fb ke) (trE n sc fb ve)
    | _ => .bad))
end
end PL
set_option Elab.async false
set_option linter.all false
set_option maxRecDepth 100000
set_option maxHeartbeats 4000000
namespace PL
open PySem PySem.Spec PyProof.Rows L2
/-! ### the tree's meaning is the text's -/
structure Snd (X : Cx) (W : WX) (e : Expr) (v : Vw) : Prop where
  el : LE X W e v.e
  tl : LT X W e v.t
  il : ∀ tg, LI X W tg e v.i
def bNames : List Str := ["len", "abs", "min", "max", "sum", "all", "any", "tuple", "list", "int", "isinstance", "bool", "str", "dict", "range", "zip", "enumerate", "sorted", "set"]
structure Good (Pg : Prog) (c : Cfg) (k : Nat) (N : List Str) (sc : Scope) (fb : Str → Bool) (X : Cx) : Prop where
  hN : X.N = N
  nd : N.Nodup
  hsc : X.env.scope = sc
  calm : X.calm = true
  units : X.A.units + 65 < cLine
  room : Room (2 * k + 3) X.A
  fnb : ∀ x, fb x = true → X.fn x = true
  blts : ∀ f ∈ bNames, X.mg f = none
  defs : ∀ f ∈ c.fns, ∃ a, X.mg f = some (.ref a) ∧ FnAt X.prog X.w X.K X.mg X.base (2 * k + 2) a (c.dfl f) (evF Pg k (.fn f))
  con : ∀ x p, Pg.con x = some p → ∃ v u, X.mg x = some u ∧ RelV v u ∧ ∀ S, Rp X.K X.mg S v p
  flds : ∀ f ∈ c.flds, FldOk X.K X.mg Pg.cls f
  maks : ∀ C ∈ c.cls, MakOk X (2 * k + 2) C (evF Pg k (.mt C "__init__"))
  mets : ∀ m ∈ c.mets, MetOk X (2 * k + 2) Pg.has m fun C => evF Pg k (.mt C m)
section
variable {X : Cx} {W : WX} {e : Expr} {pos : Pos}
theorem le_frz {f : Env → Res (RV × Env)} (h : LE X W e f) : LE X W e (fun env => (f env).bind fun r => (optR (take r.1 r.2)).bind fun r => .ok (.val r.1, r.2)) := by
  refine PE.imp h fun σ H Q q => ?_
  obtain ⟨env, S, As, R, q⟩ := q
  refine liftE.mono (bindE Stp.refl R q) ?_
  rintro v H1 ⟨rv, env1, S1, As1, B1, st1, R1, ok1, fr1, h1⟩
  dsimp only at h1
  cases ht : take rv env1 with
  | none => rw [ht] at h1; exact False.elim h1
  | some z =>
    obtain ⟨p, env2⟩ := z
    rw [ht] at h1
    obtain ⟨S8, As8, R8, st8, rp8, _⟩ := take_ok R1 ok1 st1 fr1 ht
    exact h1 v _ S8 As8 [] st8 R8 ⟨rp8, rfl⟩ fun b hb => by cases hb
theorem lt_ite {c a b : Expr} {ft fa fb : Env → Res (Bool × Env)} (hc : LT X W c ft) (ha : LT X W a fa) (hb : LT X W b fb) : LT X W (.IfExp c a b pos) (fun env => (ft env).bind fun r => match r.1 with
    | true => fa r.2
    | false => fb r.2) := by
  refine ⟨fun pins s σ H Q I h => isTrue_IfExp (thn (hc.run pins s σ H (fun v H1 => if v = true then liftT X.K X.mg W fa σ H1 Q else liftT X.K X.mg W fb σ H1 Q) I ?_) fun v s1 z => ?_)⟩
  · obtain ⟨env, S, As, R, h⟩ := h
    refine liftT.mono (bindT Stp.refl R h) ?_
    rintro v H1 ⟨env1, S1, As1, st1, R1, h1⟩
    cases v with
    | true =>
      refine iteT (liftT.mono (bindT st1 R1 (Post.pass h1)) ?_)
      rintro w H2 ⟨env2, S2, As2, st2, R2, h2⟩
      exact h2 H2 S2 As2 (st1.trans st2) R2
    | false =>
      refine iteF (liftT.mono (bindT st1 R1 (Post.pass h1)) ?_)
      rintro w H2 ⟨env2, S2, As2, st2, R2, h2⟩
      exact h2 H2 S2 As2 (st1.trans st2) R2
  · obtain ⟨H1, I1, q⟩ := z
    cases v with
    | true => exact ha.run pins s1 σ H1 Q I1 (by simpa using q)
    | false => exact hb.run pins s1 σ H1 Q I1 (by simpa using q)
theorem lt_bad {f : Env → Res (Bool × Env)} (h : ∀ env, f env = .stuck) : LT X W e f := ⟨fun pins s σ H Q I ⟨env, _, _, _, p⟩ => by rw [h env] at p; exact False.elim p⟩
theorem le_bad' {f : Env → Res (RV × Env)} (h : ∀ env, f env = .stuck) : LE X W e f := ⟨fun pins s σ H Q I ⟨env, _, _, _, p⟩ => by rw [h env] at p; exact False.elim p⟩
theorem li_bad {tg : Expr} {f : Env → Res ((List PV × RV) × Env)} (h : ∀ env, f env = .stuck) : LI X W tg e f := ⟨fun pins s σ H Q I ⟨env, _, _, _, p⟩ => by rw [h env] at p; exact False.elim p⟩
theorem Snd.bad {F : Sem} : Snd X W e (ev F .bad) := ⟨le_bad, lt_bad fun _ => rfl, fun _ => li_bad fun _ => rfl⟩
theorem Snd.vw {f : Env → Res (RV × Env)} (h : LE X W e f) (he : ∀ whole, isTrue e X.env whole = (do let v ← whole; standAt e.pos; holding [v] (truthy v))) : Snd X W e (vw f) := ⟨h, lt_truth h he, fun _ => li_seq h⟩
theorem Snd.frz {F : Sem} {ε : E} (h : Snd X W e (ev F ε)) : Snd X W e (ev F (.frz ε)) := ⟨le_frz h.el, h.tl, fun _ => li_seq (le_frz h.el)⟩
theorem Snd.frzI {F : Sem} {ε : E} {b : Bool} (h : Snd X W e (ev F ε)) : Snd X W e (ev F (PL.frzI b ε)) := by
  cases b with
  | true => exact h.frz
  | false => exact h
theorem Snd.lck {F : Sem} {ε : E} (h : Snd X W e (ev F ε)) : Snd X W e (ev F (.lck ε)) := ⟨le_lck h.el, lt_bad fun _ => rfl, fun _ => li_seq (le_lck h.el)⟩
theorem Snd.lckI {F : Sem} {ε : E} {b : Bool} (h : Snd X W e (ev F ε)) : Snd X W e (ev F (PL.lckI b ε)) := by
  cases b with
  | true => exact h.lck
  | false => exact h
theorem isM1_ok {e : Expr} (h : isM1 e = true) : ∃ k p1 p2, e = .UnaryOp .USub (.Constant (.int 1) k p1) p2 := by
  unfold isM1 at h
  split at h
  · have h := eq_of_beq h
    subst h
    exact ⟨_, _, _, rfl⟩
  · cases h
theorem ixOf_ok : ∀ {N : List Str} {x : Str} {k i : Nat}, ixOf N x k = some i → k ≤ i ∧ N[i - k]? = some x
  | [], _, _, _, h => by cases h
  | y :: r, x, k, i, h => by
    unfold ixOf at h
    split at h
    · rename_i e
      cases h
      have : x = y := by simpa using e
      subst this
      exact ⟨Nat.le_refl _, by simp⟩
    · obtain ⟨h1, h2⟩ := ixOf_ok (N := r) h
      refine ⟨by omega, ?_⟩
      rw [show i - k = (i - (k + 1)) + 1 by omega, List.getElem?_cons_succ]
      exact h2
theorem ixOf_at {N : List Str} {x : Str} {i : Nat} (h : ixOf N x 0 = some i) : N[i]? = some x := (ixOf_ok h).2
theorem visB_ok {sc : Scope} {x : Str} (h : visB sc x = true) : Vis sc x := by
  unfold visB at h
  unfold Vis
  split at h <;> first | (rename_i q; first | exact .inl q | exact .inr (.inl q) | exact .inr (.inr q)) | cases h
theorem locB_ok {sc : Scope} {x : Str} (h : locB sc x = true) : L2.Loc sc x := by
  unfold locB at h
  unfold L2.Loc
  split at h <;> first | (rename_i q; first | exact .inl q | exact .inr q) | cases h
theorem onlyB_ok {sc : Scope} {x : Str} (h : onlyB sc x = true) : sc.names.lookup x = some .local := by
  unfold onlyB at h
  split at h <;> first | assumption | cases h
theorem glB_ok {sc : Scope} {x : Str} (h : glB sc x = true) : sc.names.lookup x = some .globalImplicit := by
  unfold glB at h
  split at h <;> first | assumption | cases h
theorem plain_ok {x : Str} (h : plainName x = true) : (x == ("__debug__" : Str)) = false ∧ (x == ("__classdict__" : Str)) = false ∧ x ≠ "__name__" := by
  unfold plainName at h
  simp only [Bool.and_eq_true, Bool.not_eq_true'] at h
  exact ⟨h.1.1, h.1.2, fun e => by rw [e] at h; exact absurd h.2 (by decide)⟩
theorem star_cons {e : Expr} {es : List Expr} {env : PySem.Env} (h : isStar e = false) : starEach (e :: es) env = (false, eval e env) :: starEach es env := by
  cases e <;> first | rfl | cases h
theorem noStar_cons {e : Expr} {es : List Expr} (h : noStar (e :: es) = true) : isStar e = false ∧ noStar es = true := by
  unfold noStar at h
  simp only [List.all_cons, Bool.and_eq_true, Bool.not_eq_true'] at h
  exact h
theorem star_plain {pos : Pos} {env : PySem.Env} : ∀ {es : List Expr}, noStar es = true → (backTo pos (starEach es env)).any (·.1) = false
  | [], _ => rfl
  | e :: es, h => by
    obtain ⟨h1, h2⟩ := noStar_cons h
    rw [star_cons h1]
    exact star_plain h2
theorem star_all {pos : Pos} {env : PySem.Env} : ∀ {es : List Expr}, noStar es = true → (backTo pos (starEach es env)).all (fun x => !x.1) = true
  | [], _ => rfl
  | e :: es, h => by
    obtain ⟨h1, h2⟩ := noStar_cons h
    rw [star_cons h1]
    exact star_all h2
theorem meth_tree {X : Cx} {o : Expr} {m : Str} {ap cp : Pos} {es : List Expr} (hb : attributeBase o m X.env (eval o X.env) = eval o X.env) (hl : (ap.endLine == cp.line) = true) (hs : noStar es = true) (hlen : es.length < 30) :
    ∃ pl : PySem.Sem Bool, eval (.Call (.Attribute o m ap) es [] cp) X.env = (do
      let ov ← eval o X.env
      standAt ap.atName
      let (f, first) ← holding [ov] (getMethod ov m pl)
      callWith cp f first (backTo cp (starEach es X.env)) (backToKw cp (keywordEach [] X.env))) := by
  have form : methodCallForm (es.length + ([] : List Keyword).length) (backTo cp (starEach es X.env)) (backToKw cp (keywordEach [] X.env)) = true := by
    unfold methodCallForm
    rw [star_all hs]
    show (true && true && decide (es.length + 0 + 0 < 30)) = true
    simp only [Nat.add_zero, decide_eq_true hlen]
    rfl
  refine ⟨do return (← importBound o X.env).getD true, ?_⟩
  rw [arm_eval_Call, hb]
  unfold methodCall calleeOf methodCallPos
  rw [form, hl]
  rfl
theorem fold_ok {e : Expr} {env : PySem.Env} (h : isSetE e = false) : ∀ x, foldedSetIterable e env x = pure x := by
  intro x
  cases e <;> first | rfl | cases h
theorem slice_ok {e : Expr} (h : isSlice e = false) : PlainIx e := by
  intro o i
  cases e <;> first | rfl | cases h
variable {F : Sem}
theorem ts_len : ∀ {es : List E} {env : Env} {r : List PV × Env}, evTs F (mkEs es) env = .ok r → r.1.length = es.length
  | [], env, r, h => by
    have h : (Res.ok ([], env) : Res (List PV × Env)) = .ok r := h
    cases h; rfl
  | e :: es, env, r, h => by
    have h : (((ev F e).e env).bind fun r => (optR (take r.1 r.2)).bind fun r => (evTs F (mkEs es) r.2).bind fun q => .ok (r.1 :: q.1, q.2)) = .ok r := h
    obtain ⟨a, _, h⟩ := Res.bind_ok h
    obtain ⟨b, _, h⟩ := Res.bind_ok h
    obtain ⟨d, h1, h⟩ := Res.bind_ok h
    cases h
    rw [List.length_cons, List.length_cons, ts_len h1]
theorem hs_len : ∀ {es : List E} {env : Env} {r : List RV × Env}, evHs F (mkEs es) env = .ok r → r.1.length = es.length
  | [], env, r, h => by
    have h : (Res.ok ([], env) : Res (List RV × Env)) = .ok r := h
    cases h; rfl
  | e :: es, env, r, h => by
    have h : (((ev F e).e env).bind fun r => (evHs F (mkEs es) r.2).bind fun q => .ok (r.1 :: q.1, q.2)) = .ok r := h
    obtain ⟨a, _, h⟩ := Res.bind_ok h
    obtain ⟨d, h1, h⟩ := Res.bind_ok h
    cases h
    rw [List.length_cons, List.length_cons, hs_len h1]
theorem ts_con {ps : List PV} : ∀ {es : List E} {env : Env}, evTs F (mkEs (es ++ ps.map .con)) env = (evTs F (mkEs es) env).bind fun r => .ok (r.1 ++ ps, r.2)
  | [], env => by
    have key : ∀ (ps : List PV) (env : Env), evTs F (mkEs (ps.map .con)) env = .ok (ps, env) := by
      intro ps
      induction ps with
      | nil => intro env; rfl
      | cons p r ih =>
        intro env
        show (((ev F (.con p)).e env).bind fun r0 => (optR (take r0.1 r0.2)).bind fun r0 => (evTs F (mkEs (r.map .con)) r0.2).bind fun q => .ok (r0.1 :: q.1, q.2)) = _
        have e1 : (ev F (.con p)).e env = .ok (.val p, env) := rfl
        rw [e1]
        show ((evTs F (mkEs (r.map .con)) env).bind fun q => .ok (p :: q.1, q.2)) = _
        rw [ih]
        rfl
    show evTs F (mkEs (ps.map .con)) env = .ok ([] ++ ps, env)
    rw [key]
    rfl
  | e :: es, env => by
    show (((ev F e).e env).bind fun r0 => (optR (take r0.1 r0.2)).bind fun r0 => (evTs F (mkEs (es ++ ps.map .con)) r0.2).bind fun q => .ok (r0.1 :: q.1, q.2)) = ((((ev F e).e env).bind fun r0 => (optR (take r0.1 r0.2)).bind fun r0 => (evTs F (mkEs es) r0.2).bind fun q => .ok (r0.1 :: q.1, q.2))).bind fun r => .ok (r.1 ++ ps, r.2)
    rw [Res.assoc]
    congr 1
    funext r0
    rw [Res.assoc]
    congr 1
    funext r1
    rw [ts_con (es := es), Res.assoc, Res.assoc]
    rfl
theorem lts_all {tr : Expr → E} (h : ∀ e, LE X W e (ev F (tr e)).e) : ∀ {es : List Expr}, noStar es = true → LTs X W es (evTs F (mkEs (es.map tr)))
  | [], _ => lts_nil
  | e :: es, hs => by
    obtain ⟨h1, h2⟩ := noStar_cons hs
    exact lts_cons (h e) (lts_all h h2) (star_cons h1)
theorem lhs_all {tr : Expr → E} (h : ∀ e, LE X W e (ev F (tr e)).e) : ∀ {es : List Expr}, noStar es = true → LHs X W es (evHs F (mkEs (es.map tr)))
  | [], _ => lhs_nil
  | e :: es, hs => by
    obtain ⟨h1, h2⟩ := noStar_cons hs
    exact lhs_cons (h e) (lhs_all h h2) (star_cons h1)
theorem le_and1 {a : Expr} {f : Env → Res (RV × Env)} (h : LE X W a f) : LE X W (.BoolOp .And [a] pos) f := ⟨fun pins s σ H Q I q => by
  rw [arm_eval_BoolOp]
  exact h.run pins s σ H Q I q⟩
theorem le_or1 {a : Expr} {f : Env → Res (RV × Env)} (h : LE X W a f) : LE X W (.BoolOp .Or [a] pos) f := ⟨fun pins s σ H Q I q => by
  rw [arm_eval_BoolOp]
  exact h.run pins s σ H Q I q⟩

variable {Pg : Prog} {c : Cfg} {k : Nat} {N : List Str} {sc : Scope} {fb : Str → Bool}
theorem allO_map {α β : Type} {f : α → Option β} : ∀ {es : List α} {ts : List β}, allO (es.map f) = some ts → (es = [] ∧ ts = []) ∨ ∃ e r t ts', es = e :: r ∧ ts = t :: ts' ∧ f e = some t ∧ allO (r.map f) = some ts'
  | [], ts, h => by cases h; exact .inl ⟨rfl, rfl⟩
  | e :: r, ts, h => by
    rw [List.map_cons] at h
    cases q : f e with
    | none => rw [q] at h; cases h
    | some t =>
      rw [q] at h
      simp only [allO, Option.map_eq_some_iff] at h
      obtain ⟨ts', h1, rfl⟩ := h
      exact .inr ⟨e, r, t, ts', rfl, rfl, q, h1⟩
theorem tgs_stuck : ∀ {ts : List Tg} (hx : ∀ t ∈ ts, ∀ p env C fs e, evTg F t p env ≠ .exc C fs e) {ps : List PV} {env : Env}, evTgs F (mkTgs ts) ps env ≠ .stuck → ps.length = ts.length
  | [], _, [], _, _ => rfl
  | [], _, p :: ps, env, h => absurd rfl h
  | t :: ts, _, [], env, h => absurd rfl h
  | t :: ts, hx, p :: ps, env, h => by
    have h : ((evTg F t p env).bind fun e1 => evTgs F (mkTgs ts) ps e1) ≠ .stuck := h
    cases q : evTg F t p env with
    | stuck => rw [q] at h; exact absurd rfl h
    | exc C fs e => exact absurd q (hx t List.mem_cons_self _ _ _ _ _)
    | ok e1 =>
      rw [q] at h
      rw [List.length_cons, List.length_cons, tgs_stuck (ts := ts) (fun t ht => hx t (List.mem_cons_of_mem _ ht)) h]
theorem tgs_noexc : ∀ {ts : List Tg} (hx : ∀ t ∈ ts, ∀ p env C fs e, evTg F t p env ≠ .exc C fs e) (ps : List PV) (env : Env) (C fs e), evTgs F (mkTgs ts) ps env ≠ .exc C fs e
  | [], _, [], _, _, _, _ => fun h => by cases h
  | [], _, p :: ps, env, _, _, _ => fun h => by cases h
  | t :: ts, _, [], env, _, _, _ => fun h => by cases h
  | t :: ts, hx, p :: ps, env, C, fs, e => fun h => by
    have h : ((evTg F t p env).bind fun e1 => evTgs F (mkTgs ts) ps e1) = .exc C fs e := h
    cases q : evTg F t p env with
    | stuck => rw [q] at h; cases h
    | exc C fs e => exact absurd q (hx t List.mem_cons_self _ _ _ _ _)
    | ok e1 =>
      rw [q] at h
      exact tgs_noexc (fun t ht => hx t (List.mem_cons_of_mem _ ht)) ps e1 C fs e h
theorem allO_mem {α β : Type} {f : α → Option β} : ∀ {es : List α} {ts : List β}, allO (es.map f) = some ts → ∀ t ∈ ts, ∃ e ∈ es, f e = some t
  | es, ts, h, t, ht => by
    induction es generalizing ts with
    | nil => cases h; cases ht
    | cons e r ih =>
      rcases allO_map h with ⟨q, _⟩ | ⟨e', r', t', ts', e1, rfl, h2, h3⟩
      · cases q
      · cases e1
        rcases List.mem_cons.mp ht with rfl | ht
        · exact ⟨e, List.mem_cons_self, h2⟩
        · obtain ⟨e', h4, h5⟩ := ih ts' h3 ht
          exact ⟨e', List.mem_cons_of_mem _ h4, h5⟩
theorem trTg_noexc : ∀ {n : Nat} {tg : Expr} {t : Tg}, trTg N sc fb n tg = some t → ∀ p env C fs e, evTg F t p env ≠ .exc C fs e
  | 0, _, _, h => by cases h
  | n + 1, tg, t, h => by
    intro p env C fs e z
    unfold trTg at h
    split at h
    · split at h
      · simp only [Option.map_eq_some_iff] at h
        obtain ⟨i, hi, rfl⟩ := h
        have z : (if i < env.length then Res.ok (env.set i (some (.fz p))) else .stuck) = .exc C fs e := z
        split at z <;> cases z
      · cases h
    · split at h
      · simp only [Option.map_eq_some_iff] at h
        obtain ⟨ts, h1, rfl⟩ := h
        cases p with
        | tup xs => exact tgs_noexc (fun t ht => by
            obtain ⟨e, _, h2⟩ := allO_mem h1 t ht
            exact trTg_noexc h2) xs env C fs e z
        | _ => cases z
      · cases h
    · cases h
theorem asg_len {env : PySem.Env} : ∀ {es : List Expr}, noStar es = true → (assignEach es env).length = es.length ∧ (assignEach es env).findIdx? (·.1) = none
  | [], _ => ⟨rfl, rfl⟩
  | e :: es, h => by
    obtain ⟨h1, h2⟩ := noStar_cons h
    have q : assignEach (e :: es) env = (false, assign e env) :: assignEach es env := by cases e <;> first | rfl | cases h1
    obtain ⟨h3, h4⟩ := asg_len (env := env) h2
    rw [q]
    refine ⟨by rw [List.length_cons, List.length_cons, h3], ?_⟩
    rw [List.findIdx?_cons, h4]
    rfl
theorem trTg_ok (G : Good Pg c k N sc fb X) : ∀ {n : Nat} {tg : Expr} {t : Tg}, trTg N sc fb n tg = some t → LG X W tg t (evTg F t)
  | 0, _, _, h => by cases h
  | n + 1, tg, t, h => by
    unfold trTg at h
    split at h
    · rename_i x p
      split at h
      · rename_i hc
        simp only [Option.map_eq_some_iff] at h
        obtain ⟨i, hi, rfl⟩ := h
        simp only [Bool.and_eq_true, Bool.or_eq_true] at hc
        have hi := ixOf_at hi
        rw [← G.hN] at hi
        exact lg_name (by rw [G.hN]; exact G.nd) hi (by rw [G.hsc]; exact locB_ok hc.1) (hc.2.imp (G.fnb x) fun z => by rw [G.hsc]; exact onlyB_ok z)
      · cases h
    · rename_i es kk p
      split at h
      · rename_i hs
        simp only [Option.map_eq_some_iff] at h
        obtain ⟨ts, h1, rfl⟩ := h
        have key : ∀ {es : List Expr} {ts : List Tg}, noStar es = true → allO (es.map (trTg N sc fb n)) = some ts → LGs X W es (mkTgs ts) (evTgs F (mkTgs ts)) ∧ ts.length = es.length := by
          intro es
          induction es with
          | nil =>
            intro ts _ h
            cases h
            exact ⟨lgs_nil, rfl⟩
          | cons e r ih =>
            intro ts hs h
            rcases allO_map h with ⟨q, _⟩ | ⟨e', r', t, ts', e1, rfl, h2, h3⟩
            · cases q
            · cases e1
              obtain ⟨h4, h5⟩ := noStar_cons hs
              obtain ⟨h6, h7⟩ := ih h5 h3
              exact ⟨lgs_cons (trTg_ok G h2) h6 (by cases e <;> first | rfl | cases h4), by rw [List.length_cons, List.length_cons, h7]⟩
        obtain ⟨h2, h3⟩ := key hs h1
        obtain ⟨h4, h5⟩ := asg_len (env := X.env) hs
        exact lg_tup G.calm h2 h4 h5 fun ps env z => by
          rw [tgs_stuck (fun t ht => by
            obtain ⟨e, _, h2⟩ := allO_mem h1 t ht
            exact trTg_noexc h2) z, h3]
      · cases h
    · cases h
theorem Good.gl (G : Good Pg c k N sc fb X) {f : Str} (h : glB sc f = true) : Gl X f := by
  show X.env.scope.names.lookup f = _
  rw [G.hsc]; exact glB_ok h
theorem itE_ok (G : Good Pg c k N sc fb X) {tr : Expr → E} (h : ∀ e, Snd X W e (ev F (tr e))) (tg e : Expr) : LI X W tg e (ev F (itE tr sc tg e)).i := by
  unfold itE
  split
  · rename_i f p a q
    split
    · rename_i hf
      have hf : f = "range" := by simpa using hf
      subst hf
      split
      · rename_i hc
        simp only [Bool.and_eq_true] at hc
        have h1 := (noStar_cons hc.2).1
        have := li_range1 (tg := tg) (pos := q) (p := p) (G.gl hc.1) (G.blts _ (by decide)) (lhs_all (fun e => (h e).el) hc.2) (fun env r e => by rw [hs_len e]; rfl) (star_cons (es := []) h1)
        exact this
      · exact li_bad fun _ => rfl
    · split
      · rename_i hf
        have hf : f = "enumerate" := by simpa using hf
        subst hf
        split
        · rename_i hc
          simp only [Bool.and_eq_true] at hc
          obtain ⟨elts, kk, tpos, rfl⟩ : ∃ elts kk tpos, tg = .Tuple elts kk tpos := by
            cases tg <;> first | exact ⟨_, _, _, rfl⟩ | cases hc.2
          exact li_enum (pos := q) (p := p) (G.gl hc.1.1) (G.blts _ (by decide)) (lts_all (fun e => (h e).el) hc.1.2) (star_cons (es := []) (noStar_cons hc.1.2).1)
        · exact li_bad fun _ => rfl
      · exact (h _).il tg
  · rename_i f p a b q
    split
    · rename_i hf
      have hf : f = "range" := by simpa using hf
      subst hf
      split
      · rename_i hc
        simp only [Bool.and_eq_true] at hc
        obtain ⟨h1, h2⟩ := noStar_cons hc.2
        obtain ⟨h3, _⟩ := noStar_cons h2
        exact li_range2 (tg := tg) (pos := q) (p := p) (G.gl hc.1) (G.blts _ (by decide)) (lhs_all (fun e => (h e).el) hc.2) (fun env r e => by rw [hs_len e]; rfl) (by rw [star_cons h1, star_cons h3]; rfl) (star_cons (es := []) h3)
      · exact li_bad fun _ => rfl
    · split
      · rename_i hf
        have hf : f = "zip" := by simpa using hf
        subst hf
        split
        · rename_i hc
          simp only [Bool.and_eq_true] at hc
          obtain ⟨elts, kk, tpos, rfl⟩ : ∃ elts kk tpos, tg = .Tuple elts kk tpos := by
            cases tg <;> first | exact ⟨_, _, _, rfl⟩ | cases hc.2
          obtain ⟨h1, h2⟩ := noStar_cons hc.1.2
          exact li_zip (pos := q) (p := p) (G.gl hc.1.1) (G.blts _ (by decide)) (lts_all (fun e => (h e).el) hc.1.2) (star_cons h1) (star_plain h2)
        · exact li_bad fun _ => rfl
      · exact (h _).il tg
  · rename_i f p a b d q
    split
    · rename_i hf
      have hf : f = "range" := by simpa using hf
      subst hf
      split
      · rename_i hc
        simp only [Bool.and_eq_true] at hc
        obtain ⟨h1, h2⟩ := noStar_cons hc.2
        obtain ⟨h3, h4⟩ := noStar_cons h2
        exact li_range3 (tg := tg) (pos := q) (p := p) (G.gl hc.1) (G.blts _ (by decide)) (lhs_all (fun e => (h e).el) hc.2) (fun env r e => by rw [hs_len e]; rfl) (star_cons h1) (star_plain h2)
      · exact li_bad fun _ => rfl
    · exact (h _).il tg
  · exact (h _).il tg
theorem itF_ok (G : Good Pg c k N sc fb X) {tr : Expr → E} (h : ∀ e, Snd X W e (ev F (tr e))) (tg e : Expr) : LI X W tg e (ev F (itF tr sc tg e)).i := by
  unfold itF
  split
  · exact itE_ok G h tg e
  · exact (h e).frz.il tg
theorem tst_ok {tr : Expr → E} (h : ∀ e, LT X W0 e (ev F (tr e)).t) (ifs : List Expr) : PTs X ifs (liftT X.K X.mg W0 (ev F (tstE tr ifs)).t) := by
  unfold tstE
  split
  · exact lts_test0
  · exact pts_one (h _)
  · exact ⟨fun pins s σ H Q I ⟨env, _, _, _, p⟩ => False.elim p⟩
theorem Good.blk (G : Good Pg c k N sc fb X) (s : Shared) (H : Hp) (scope : Scope) (C : Addr) (cl : List (Str × Addr)) (fp : List Addr) : Good Pg c k N (relS scope sc) (cellB scope) (X.blk s H scope (compEnvC scope cl C X.env) fp) :=
  ⟨G.hN, G.nd, by rw [← G.hsc]; rfl, G.calm, G.units, G.room, fun x h => h, G.blts, G.defs, G.con, G.flds, G.maks, G.mets⟩
theorem sub_ok {is js : List Nat} (h : subsetB is js = true) : ∀ j ∈ is, j ∈ js := by
  intro j hj
  have := List.all_eq_true.mp h j hj
  simpa using this

theorem conOf_ok {kc : Const} {p : PV} {j : Nat} (h : conOf kc = some p) : LE X W (.Constant kc j pos) (fun env => .ok (.val p, env)) := by
  cases kc with
  | none => cases h; exact le_con pe_non fun S => Rp.non
  | bool b => cases h; exact le_con pe_bl fun S => Rp.bl b
  | int i => cases h; exact le_con pe_int fun S => Rp.int i
  | str x => cases h; exact le_con pe_str fun S => by unfold Rp; rfl
  | _ => cases h
theorem tyOf_ok {x : Str} {T : String} (h : tyOf x = some T) : x ∈ bNames ∧ bootBuiltins x = some (.type T) := by
  unfold tyOf at h
  repeat' (split at h)
  all_goals first | cases h | skip
  all_goals (rename_i q; first
    | (have q := eq_of_beq q; subst q; exact ⟨by decide, by decide +kernel⟩))
end
end PL
set_option Elab.async false
set_option linter.all false
set_option maxRecDepth 100000
set_option maxHeartbeats 8000000
namespace PL
open PySem PySem.Spec PyProof.Rows L2
section
variable {Pg : Prog} {c : Cfg} {k : Nat} {N : List Str}
theorem Snd.of_vw {X : Cx} {W : WX} {e : Expr} {F : Sem} {ε : E} {f : Env → Res (RV × Env)} (hv : ev F ε = PL.vw f) (h : LE X W e f) (he : ∀ whole, isTrue e X.env whole = (do let v ← whole; standAt e.pos; holding [v] (truthy v))) : Snd X W e (ev F ε) := by
  rw [hv]; exact Snd.vw h he
theorem par_none {X : Cx} {W : WX} {F : Sem} {tr : Expr → E} : LP X W none (parO (isNop (parE tr none)) (ev F (parE tr none)).e) := lp_none
theorem par_some {X : Cx} {W : WX} {F : Sem} {tr : Expr → E} {a : Expr} (h : LE X W a (ev F (tr a)).e) : LP X W (some a) (parO (isNop (parE tr (some a))) (ev F (parE tr (some a))).e) := by
  show LP X W (some a) (parO (isNop (match tr a with | .con .non => .bad | e => e)) (ev F (match tr a with | .con .non => .bad | e => e)).e)
  split
  · exact lp_some le_bad
  · rename_i hn
    have e : isNop (tr a) = false := by
      unfold isNop
      split
      · rename_i q; exact absurd q hn
      · rfl
    rw [e]
    exact lp_some h
theorem and_all {X : Cx} {W : WX} {F : Sem} {tr : Expr → E} {p : Pos} (h : ∀ e, Snd X W e (ev F (tr e))) : ∀ (a : Expr) (r : List Expr), LE X W (.BoolOp .And (a :: r) p) (ev F (andE ((a :: r).map tr))).e ∧ LW X W (.BoolOp .And (a :: r) p) (ev F (andE ((a :: r).map tr))).t
  | a, [] => ⟨le_and1 (h a).el, lw_and1 (h a).tl⟩
  | a, b :: r => ⟨le_and (h a).el (and_all h b r).1, lw_and (h a).tl (and_all h b r).2⟩
theorem or_all {X : Cx} {W : WX} {F : Sem} {tr : Expr → E} {p : Pos} (h : ∀ e, Snd X W e (ev F (tr e))) : ∀ (a : Expr) (r : List Expr), LE X W (.BoolOp .Or (a :: r) p) (ev F (orE ((a :: r).map tr))).e ∧ LW X W (.BoolOp .Or (a :: r) p) (ev F (orE ((a :: r).map tr))).t
  | a, [] => ⟨le_or1 (h a).el, lw_or1 (h a).tl⟩
  | a, b :: r => ⟨le_or (h a).el (or_all h b r).1, lw_or (h a).tl (or_all h b r).2⟩
theorem gcE_ok {sc : Scope} {fb : Str → Bool} {X : Cx} {W : WX} {tr : Expr → E} (G : Good Pg c k N sc fb X) (tk : Takes X W) (ih : ∀ e, Snd X W e (ev (Pg.sem k) (tr e))) (f : Str) (p : Pos) (a : Expr) (es : List Expr) (q : Pos) :
    Snd X W (.Call (.Name f p) (a :: es) [] q) (ev (Pg.sem k) (gcE N c tr sc f a es)) := by
  unfold gcE
  split
  · rename_i hc
    simp only [Bool.and_eq_true] at hc
    obtain ⟨⟨hp, hg⟩, hst⟩ := hc
    obtain ⟨hp1, hp2, hp3⟩ := plain_ok hp
    obtain ⟨hs1, hs2⟩ := noStar_cons hst
    split
    · rename_i hf
      obtain ⟨adr, hm, F⟩ := G.defs f (by simpa using hf)
      split
      · split
        · rename_i y py
          split
          · rename_i hy
            simp only [Bool.and_eq_true] at hy
            obtain ⟨hy1, hy2, _⟩ := plain_ok hy.1
            split
            · rename_i i hi
              have hi := ixOf_at hi
              rw [← G.hN] at hi
              exact .of_vw rfl (le_calm tk F (G.room.mono (by omega)) (G.gl hg) hm (lts_all (fun e => (ih e).el) hs2) hi (by rw [G.hsc]; exact visB_ok hy.2) hy1 hy2 hp1 (star_plain hs2)) fun _ => rfl
            · exact Snd.bad
          · exact Snd.bad
        · exact Snd.bad
      · split
        · rename_i dp hdp
          have hd : dp ∈ c.dfl f := by
            unfold dfOf at hdp
            simp only [Option.map_eq_some_iff] at hdp
            obtain ⟨e, e1, rfl⟩ := hdp
            have e2 := List.find?_some e1
            simp only [Bool.and_eq_true] at e2
            exact List.mem_map.mpr ⟨e, List.mem_filter.mpr ⟨List.mem_of_find?_eq_some e1, e2.1⟩, rfl⟩
          refine .of_vw (f := fun env => (evTs (Pg.sem k) (mkEs ((a :: es).map (tr))) env).bind fun r => endCall none r.2 (evF Pg k (.fn f) (vals (r.1 ++ dp)))) ?_ (le_callD tk F hd (G.room.mono (by omega)) (G.gl hg) hm (lts_all (fun e => (ih e).el) hst) hp1 (star_cons hs1) (star_plain hs2)) fun _ => rfl
          show PL.vw _ = PL.vw _
          congr 1
          funext env
          rw [ts_con, Res.assoc]
          rfl
        · exact .of_vw rfl (le_call tk F (G.room.mono (by omega)) (G.gl hg) hm (lts_all (fun e => (ih e).el) hst) hp1 (star_cons hs1) (star_plain hs2)) fun _ => rfl
    · split
      · rename_i hC
        exact .of_vw rfl (le_mk tk G.room (G.maks f (by simpa using hC)) (G.gl hg) (lts_all (fun e => (ih e).el) hst) hp1 (star_cons hs1) (star_plain hs2)) fun _ => rfl
      split
      · rename_i hb
        have hb : f ∈ blts := by simpa using hb
        have hb2 : f ∈ bNames := by
          unfold blts at hb
          unfold bNames
          simp only [List.mem_cons, List.not_mem_nil, or_false] at hb ⊢
          rcases hb with h | h | h | h | h | h | h | h | h | h | h | h <;> simp [h]
        have h1 := le_blt (p := p) (pos := q) G.calm hb (G.gl hg) (G.blts _ hb2) (lhs_all (fun e => (ih e).el) hst) (star_cons hs1) (star_plain hs2)
        have nr : f ≠ "range" ∧ f ≠ "zip" ∧ f ≠ "enumerate" := by
          unfold blts at hb
          simp only [List.mem_cons, List.not_mem_nil, or_false] at hb
          rcases hb with h | h | h | h | h | h | h | h | h | h | h | h <;> (subst h; decide)
        refine ⟨h1, lt_truth h1 fun _ => rfl, fun tg => ?_⟩
        have h2 := li_seq (tg := tg) h1
        have e : (ev (Pg.sem k) (.blt f (mkEs ((a :: es).map (tr))))).i = itsV (ev (Pg.sem k) (.blt f (mkEs ((a :: es).map (tr))))).e := by
          funext env
          show (if f = ("range" : Str) then _ else if f = ("zip" : Str) then _ else if f = ("enumerate" : Str) then _ else _) = _
          rw [if_neg nr.1, if_neg nr.2.1, if_neg nr.2.2]
          rfl
        rw [e]
        exact h2
      · exact Snd.bad
  · exact Snd.bad
theorem spE_ok {sc : Scope} {fb : Str → Bool} {X : Cx} {W : WX} {tr : Expr → E} (G : Good Pg c k N sc fb X) (tk : Takes X W) (ih : ∀ e, Snd X W e (ev (Pg.sem k) (tr e))) (f : Str) (p : Pos) (a : Expr) (es : List Expr) (q : Pos) {ε : E} (h : spE tr sc f a es = some ε) :
    Snd X W (.Call (.Name f p) (a :: es) [] q) (ev (Pg.sem k) ε) := by
  unfold spE at h
  split at h
  · rename_i g p2 x q2
    split at h
    · rename_i hc
      simp only [Bool.and_eq_true, Bool.not_eq_true'] at hc
      obtain ⟨⟨⟨hp, hg⟩, hg2⟩, hx⟩ := hc
      split at h
      · rename_i h1
        simp only [Bool.and_eq_true, Bool.or_eq_true] at h1
        cases h
        have e1 : g = "set" := eq_of_beq h1.1
        subst e1
        rcases h1.2 with h2 | h2
        · have e2 : f = "sorted" := eq_of_beq h2
          subst e2
          exact .of_vw rfl (le_ssetS G.calm (G.gl hg) (G.blts _ (by decide)) (G.gl hg2) (G.blts _ (by decide)) (ih x).el (star_cons (es := []) hx)) fun _ => rfl
        · have e2 : f = "len" := eq_of_beq h2
          subst e2
          exact .of_vw rfl (le_ssetL G.calm (G.gl hg) (G.blts _ (by decide)) (G.gl hg2) (G.blts _ (by decide)) (ih x).el (star_cons (es := []) hx)) fun _ => rfl
      · split at h
        · rename_i h1
          simp only [Bool.and_eq_true, Bool.or_eq_true] at h1
          cases h
          have e1 : g = "range" := eq_of_beq h1.1
          subst e1
          have hf : f = "list" ∨ f = "tuple" := h1.2.imp (fun z => eq_of_beq z) fun z => eq_of_beq z
          have hb : f ∈ bNames := by rcases hf with rfl | rfl <;> decide
          exact .of_vw (f := fSeq f (rngV fun env => ((ev (Pg.sem k) (tr x)).e env).bind fun r => .ok ([r.1], r.2))) rfl (le_seq1 G.calm hf (G.gl hg) (G.blts _ hb) (G.gl hg2) (G.blts _ (by decide)) (ih x).el (star_cons (es := []) hx)) fun _ => rfl
        · cases h
    · cases h
  · cases h
theorem trE_ok : ∀ (n : Nat) (sc : Scope) (fb : Str → Bool) (X : Cx) (W : WX) (e : Expr), Good Pg c k N sc fb X → Takes X W → Snd X W e (ev (Pg.sem k) (trE N c n sc fb e))
  | 0, sc, fb, X, W, e, G, tk => Snd.bad
  | n + 1, sc, fb, X, W, e, G, tk => by
    have ih := fun e => trE_ok n sc fb X W e G tk
    have ihb := fun s H scope C cl fp e => trE_ok n (relS scope sc) (cellB scope) (X.blk s H scope (compEnvC scope cl C X.env) fp) W0 e (G.blk s H scope C cl fp) takes0
    have tgb := fun s H scope C cl fp tg t (h : trTg N (relS scope sc) (cellB scope) n tg = some t) => trTg_ok (W := W0) (F := Pg.sem k) (G.blk s H scope C cl fp) h
    unfold trE
    refine Snd.frzI (Snd.lckI ?_)
    split
    · -- a name
      rename_i x p
      split
      · rename_i hp
        obtain ⟨hp1, hp2, hp3⟩ := plain_ok hp
        split
        · rename_i hv
          split
          · rename_i i hi
            have hi := ixOf_at hi
            rw [← G.hN] at hi
            exact .of_vw rfl (le_var hi (by rw [G.hsc]; exact visB_ok hv) hp1 hp2) fun _ => rfl
          · exact Snd.bad
        · split
          · rename_i hg
            split
            · rename_i T hT
              obtain ⟨h1, h2⟩ := tyOf_ok hT
              exact .of_vw rfl (le_con (v := .ty T) (pe_bltn (G.gl hg) (G.blts _ h1) h2 rfl hp3 hp1) fun S => by unfold Rp; rfl) fun _ => rfl
            · refine .of_vw (f := fun env => match Pg.con x with | some p => .ok (.val p, env) | none => .stuck) rfl ?_ fun _ => rfl
              cases hc : Pg.con x with
              | none => exact le_bad
              | some q =>
                obtain ⟨v, u, h1, h2, h3⟩ := G.con x q hc
                exact le_con (v := v) ⟨fun pins s σ H Q I h => ld_glob I (G.gl hg) h1 ⟨v, H, I, h2, h⟩ hp1⟩ h3
          · exact Snd.bad
      · exact Snd.bad
    · -- a constant
      split
      · rename_i p hp
        exact .of_vw rfl (conOf_ok hp) fun _ => rfl
      · exact Snd.bad
    · -- an operation
      split
      · rename_i o ho
        have := opOf_bop ho
        subst this
        exact .of_vw rfl (le_bop o (ih _).el (ih _).el) fun _ => rfl
      · exact Snd.bad
    · exact .of_vw rfl (le_neg (ih _).el) fun _ => rfl
    · exact ⟨le_not (ih _).el, lt_not (ih _).tl, fun _ => li_bad fun _ => rfl⟩
    · rename_i a b r p
      obtain ⟨h1, h2⟩ := and_all (p := p) ih b r
      exact ⟨le_and (ih a).el h1, (lw_and (ih a).tl h2).pt, fun _ => li_bad fun _ => rfl⟩
    · rename_i a b r p
      obtain ⟨h1, h2⟩ := or_all (p := p) ih b r
      exact ⟨le_or (ih a).el h1, (lw_or (ih a).tl h2).pt, fun _ => li_bad fun _ => rfl⟩
    · split
      · exact Snd.bad
      · rename_i a o b p hm
        have hm : behindInMarks o b = false := by simpa using hm
        have e := cpOf_cop o
        rw [← e] at hm
        have h1 := le_cmp (pos := p) G.units (copOf o) (ih a).el (ih b).el hm
        have h2 := lt_cmp (pos := p) G.units (copOf o) (ih a).el (ih b).el hm
        rw [e] at h1 h2
        exact ⟨h1, h2, fun tg => li_seq h1⟩
    · split
      · exact Snd.bad
      · rename_i a o o' b d p hm
        have hm : lastMarks [o, o'] [b, d] = false := by simpa using hm
        have e := cpOf_cop o
        have e' := cpOf_cop o'
        rw [← e, ← e'] at hm
        have h1 := le_chn (pos := p) G.units (copOf o) (copOf o') (ih a).el (ih b).el (ih d).el hm
        have h2 := lt_chn (pos := p) G.units (copOf o) (copOf o') (ih a).el (ih b).el (ih d).el hm
        rw [e, e'] at h1 h2
        exact ⟨h1, h2, fun tg => li_seq h1⟩
    · split
      · exact Snd.bad
      · rename_i a o o' o'' b d g p hm
        have hm : lastMarks [o, o', o''] [b, d, g] = false := by simpa using hm
        have e := cpOf_cop o
        have e' := cpOf_cop o'
        have e'' := cpOf_cop o''
        rw [← e, ← e', ← e''] at hm
        have h1 := le_chn3 (pos := p) G.units (copOf o) (copOf o') (copOf o'') (ih a).el (ih b).el (ih d).el (ih g).el hm
        have h2 := lt_chn3 (pos := p) G.units (copOf o) (copOf o') (copOf o'') (ih a).el (ih b).el (ih d).el (ih g).el hm
        rw [e, e', e''] at h1 h2
        exact ⟨h1, h2, fun tg => li_seq h1⟩
    · rename_i t a b p
      have h1 := le_ite (pos := p) (ih t).tl (ih a).el (ih b).el
      exact ⟨h1, lt_ite (pos := p) (ih t).tl (ih a).tl (ih b).tl, fun tg => li_seq h1⟩
    · split
      · rename_i hc
        simp only [Bool.and_eq_true, decide_eq_true_eq] at hc
        exact .of_vw rfl (le_tup (lts_all (fun e => (ih e).el) hc.1) hc.2 fun env r e => by rw [ts_len e, List.length_map]) fun _ => rfl
      · exact Snd.bad
    · split
      · rename_i hc
        simp only [Bool.and_eq_true, decide_eq_true_eq] at hc
        exact .of_vw rfl (le_lst (lts_all (fun e => (ih e).el) hc.1) hc.2 fun env r e => by rw [ts_len e, List.length_map]) fun _ => rfl
      · exact Snd.bad
    · rename_i o lo hi p q
      refine .of_vw rfl (le_sl (ih o).el (lo := lo) (hi := hi) ?_ ?_) fun _ => rfl
      · cases lo with
        | none => exact par_none (tr := trE N c n sc fb)
        | some a => exact par_some (ih a).el
      · cases hi with
        | none => exact par_none (tr := trE N c n sc fb)
        | some a => exact par_some (ih a).el
    · split
      · rename_i hs
        obtain ⟨k1, p1, p2, rfl⟩ := isM1_ok hs
        exact .of_vw rfl (le_rev (ih _).el) fun _ => rfl
      · exact Snd.bad
    · split
      · exact Snd.bad
      · rename_i hs
        exact .of_vw rfl (le_ix G.units (ih _).el (ih _).el (slice_ok (by simpa using hs))) fun _ => rfl
    · -- a call of a name
      rename_i f p a es q
      cases hsp : spE (trE N c n sc fb) sc f a es with
      | some ε => exact spE_ok G tk ih f p a es q hsp
      | none => exact gcE_ok G tk ih f p a es q
    · rename_i o m ap cp
      split
      · exact Snd.bad
      · rename_i ho
        have hb : attributeBase o m X.env (eval o X.env) = eval o X.env := by
          cases o <;> first | rfl | exact absurd (show isCall (.Call _ _ _ _) = true from rfl) ho
        split
        · rename_i hc
          simp only [Bool.and_eq_true] at hc
          exact .of_vw rfl (le_mth0 (by simpa using hc.1) (ih o).el hb hc.2) fun _ => rfl
        · split
          · rename_i hm
            simp only [Bool.and_eq_true] at hm
            exact .of_vw rfl (le_omt tk (G.room.mono (by omega)) (G.mets m (by simpa using hm.1)) (ih o).el lts_nil (.inl ⟨rfl, rfl⟩) (meth_tree hb hm.2 rfl (by decide))) fun _ => rfl
          · exact Snd.bad
    · rename_i o m ap a es cp
      split
      · exact Snd.bad
      · rename_i hc0
        simp only [Bool.or_eq_true, Bool.not_eq_true', not_or, Bool.not_eq_true, Bool.not_eq_false] at hc0
        obtain ⟨ho, hst⟩ := hc0
        obtain ⟨hs1, hs2⟩ := noStar_cons hst
        have hb : attributeBase o m X.env (eval o X.env) = eval o X.env := by
          cases o <;> first | rfl | cases ho
        split
        · rename_i hc
          simp only [Bool.and_eq_true, decide_eq_true_eq] at hc
          obtain ⟨⟨hm, hl⟩, hlen⟩ := hc
          refine .of_vw rfl (le_mth (by simpa using hm) (ih o).el (lts_all (fun e => (ih e).el) hst) hb ?_ hl (star_cons hs1) (star_plain hs2)) fun _ => rfl
          rw [star_all hst]
          show (true && (backToKw cp (keywordEach [] X.env)).all (fun x => x.1.isSome) && decide ((a :: es).length + 0 + 0 < 30)) = true
          simp only [Nat.add_zero, decide_eq_true hlen]
          rfl
        · split
          · rename_i hm
            simp only [Bool.and_eq_true, decide_eq_true_eq] at hm
            exact .of_vw rfl (le_omt tk (G.room.mono (by omega)) (G.mets m (by simpa using hm.1.1)) (ih o).el (lts_all (fun e => (ih e).el) hst) (.inr ⟨a, es, rfl, star_cons hs1, star_plain hs2⟩) (meth_tree hb hm.1.2 hst hm.2)) fun _ => rfl
          · exact Snd.bad
    · -- a field
      rename_i o f p
      split
      · rename_i hc
        simp only [Bool.and_eq_true, Bool.not_eq_true'] at hc
        refine .of_vw rfl (le_att (G.flds f (by simpa using hc.1)) (ih o).el ?_) fun _ => rfl
        cases o with
        | Call fn as kws q =>
          have h2 := hc.2
          cases fn with
          | Name x px =>
            cases as with
            | nil => cases kws with
              | nil =>
                have hx : (x != ("super" : Str)) = true := by
                  have : (x == ("super" : Str)) = false := h2
                  simp [bne, this]
                unfold attributeBase
                dsimp only
                rw [hx]
                simp
              | cons _ _ => rfl
            | cons _ _ => rfl
          | _ => rfl
        | _ => rfl
      · exact Snd.bad
    · -- a comprehension
      rename_i e tg it ifs scope p
      split
      · rename_i t ht
        split
        · rename_i hb
          simp only [Bool.and_eq_true, Bool.not_eq_true'] at hb
          have ok : BlkOk X.N X.env.scope scope (ownOf N scope) := by rw [G.hN, G.hsc]; exact blkOk_by hb.1.1
          split
          · exact .of_vw rfl (le_ln (own := ownOf N scope) rfl G.calm (by rw [G.hN]; exact G.nd) (itE_ok G ih tg it) ok (sub_ok hb.1.2)
              (fun s H C cl fp => tgb s H scope C cl fp tg t ht) (fun s H C cl fp => tst_ok (fun e => (ihb s H scope C cl fp e).tl) ifs) (fun s H C cl fp => (ihb s H scope C cl fp e).el) (fold_ok hb.2)) fun _ => rfl
          · exact .of_vw rfl (le_lc (own := ownOf N scope) rfl G.calm (by rw [G.hN]; exact G.nd) (itE_ok G ih tg it) ok (sub_ok hb.1.2)
              (fun s H C cl fp => tgb s H scope C cl fp tg t ht) (fun s H C cl fp => tst_ok (fun e => (ihb s H scope C cl fp e).tl) ifs) (fun s H C cl fp => (ihb s H scope C cl fp e).el) (fold_ok hb.2)) fun _ => rfl
        · exact Snd.bad
      · exact Snd.bad
    · rename_i e tg it ifs tg1 it1 ifs1 scope p
      split
      · rename_i t t1 ht ht1
        split
        · rename_i hb
          simp only [Bool.and_eq_true, Bool.not_eq_true'] at hb
          obtain ⟨⟨⟨⟨hb1, hb2⟩, hb3⟩, hb4⟩, hb5⟩ := hb
          have ok : BlkOk X.N X.env.scope scope (ownOf N scope) := by rw [G.hN, G.hsc]; exact blkOk_by hb1
          exact .of_vw rfl (le_lc2 (own := ownOf N scope) rfl G.calm (by rw [G.hN]; exact G.nd) (itE_ok G ih tg it) ok (sub_ok hb3) (sub_ok hb2) (fun j hj => hj)
            (fun s H C cl fp => tgb s H scope C cl fp tg t ht) (fun s H C cl fp => tst_ok (fun e => (ihb s H scope C cl fp e).tl) ifs)
            (fun s H C cl fp => itF_ok (G.blk s H scope C cl fp) (ihb s H scope C cl fp) tg1 it1)
            (fun s H C cl fp => tgb s H scope C cl fp tg1 t1 ht1) (fun s H C cl fp => tst_ok (fun e => (ihb s H scope C cl fp e).tl) ifs1) (fun s H C cl fp => (ihb s H scope C cl fp e).el) (fold_ok hb4) (fun env => fold_ok hb5)) fun _ => rfl
        · exact Snd.bad
      · exact Snd.bad
    · -- a dict's comprehension
      rename_i kx vx tg it ifs scope p
      split
      · rename_i t ht
        split
        · rename_i hb
          simp only [Bool.and_eq_true, Bool.not_eq_true'] at hb
          have ok : BlkOk X.N X.env.scope scope (ownOf N scope) := by rw [G.hN, G.hsc]; exact blkOk_by hb.1.1
          exact .of_vw rfl (le_dc (own := ownOf N scope) (by have := G.units; omega) rfl G.calm (by rw [G.hN]; exact G.nd) (itE_ok G ih tg it) ok (sub_ok hb.1.2)
            (fun s H C cl fp => tgb s H scope C cl fp tg t ht) (fun s H C cl fp => tst_ok (fun e => (ihb s H scope C cl fp e).tl) ifs) (fun s H C cl fp => (ihb s H scope C cl fp kx).el) (fun s H C cl fp => (ihb s H scope C cl fp vx).el) (fold_ok hb.2)) fun _ => rfl
        · exact Snd.bad
      · exact Snd.bad
    · rename_i kx vx tg it ifs tg1 it1 ifs1 scope p
      split
      · rename_i t t1 ht ht1
        split
        · rename_i hb
          simp only [Bool.and_eq_true, Bool.not_eq_true'] at hb
          obtain ⟨⟨⟨⟨hb1, hb2⟩, hb3⟩, hb4⟩, hb5⟩ := hb
          have ok : BlkOk X.N X.env.scope scope (ownOf N scope) := by rw [G.hN, G.hsc]; exact blkOk_by hb1
          exact .of_vw rfl (le_dc2 (own := ownOf N scope) (by have := G.units; omega) rfl G.calm (by rw [G.hN]; exact G.nd) (itE_ok G ih tg it) ok (sub_ok hb3) (sub_ok hb2) (fun j hj => hj)
            (fun s H C cl fp => tgb s H scope C cl fp tg t ht) (fun s H C cl fp => tst_ok (fun e => (ihb s H scope C cl fp e).tl) ifs)
            (fun s H C cl fp => itF_ok (G.blk s H scope C cl fp) (ihb s H scope C cl fp) tg1 it1)
            (fun s H C cl fp => tgb s H scope C cl fp tg1 t1 ht1) (fun s H C cl fp => tst_ok (fun e => (ihb s H scope C cl fp e).tl) ifs1) (fun s H C cl fp => (ihb s H scope C cl fp kx).el) (fun s H C cl fp => (ihb s H scope C cl fp vx).el) (fold_ok hb4) (fun env => fold_ok hb5)) fun _ => rfl
        · exact Snd.bad
      · exact Snd.bad
    · exact .of_vw rfl (le_dnew _) fun _ => rfl
    · exact .of_vw rfl (le_dsp _ (ih _).el (ih _).el) fun _ => rfl
    · exact Snd.bad
end
end PL
set_option Elab.async false
set_option linter.all false
set_option maxRecDepth 100000
set_option maxHeartbeats 4000000
namespace PL
open PySem PySem.Spec PyProof.Rows L2
section
variable {X : Cx} {W : WX} {o i e : Expr} {pos : Pos} {fo fi fe : Env → Res (RV × Env)}
/-- o[i] = v, of a list or a dict -/
def rSetA : TSet := fun o i v H Q => rSetL o i v H Q ∨ rSetD o i v H Q
theorem set_any (hu : X.A.units + 1 < cLine) : PSet X rSetA := by
  intro pins s σ H o i v ov iv u Q I ro ri rv h
  rcases h with h | h
  · exact set_list pins s σ H o i v ov iv u Q I ro ri rv h
  · exact set_dict hu pins s σ H o i v ov iv u Q I ro ri rv h
theorem CellsOk.setFz {K : PySem.W.Frag} {mg : Str → Option Value} {H S : Hp} {w : V} {p : PV} (hp : Rp K mg S w p) : ∀ {n : Nat} {cs : List Cell} {vs : List V} {B : List Addr}, CellsOk K mg H S vs cs B → ∃ B', CellsOk K mg H S (vs.set n w) (cs.set n (.fz p)) B' ∧ ∀ x ∈ B', x ∈ B
  | n, [], vs, B, h => by
    unfold CellsOk at h
    obtain ⟨rfl, rfl⟩ := h
    exact ⟨[], by rw [List.set_nil, List.set_nil]; unfold CellsOk; exact ⟨rfl, rfl⟩, fun x hx => hx⟩
  | 0, c :: cs, vs, B, h => by
    unfold CellsOk at h
    obtain ⟨v, r, B1, B2, rfl, rfl, h1, h2, h3⟩ := h
    refine ⟨B2, ?_, fun x hx => List.mem_append_right _ hx⟩
    rw [List.set_cons_zero, List.set_cons_zero]
    unfold CellsOk
    exact ⟨w, r, [], B2, rfl, rfl, by unfold CellOk; exact ⟨hp, rfl⟩, h2, fun b hb => by cases hb⟩
  | n + 1, c :: cs, vs, B, h => by
    unfold CellsOk at h
    obtain ⟨v, r, B1, B2, rfl, rfl, h1, h2, h3⟩ := h
    obtain ⟨B', k1, k2⟩ := CellsOk.setFz (n := n) hp h2
    refine ⟨B1 ++ B', ?_, fun x hx => ?_⟩
    · rw [List.set_cons_succ, List.set_cons_succ]
      unfold CellsOk
      exact ⟨v, _, B1, B', rfl, rfl, h1, k1, fun b hb z => h3 b hb (k2 b z)⟩
    · rcases List.mem_append.mp hx with z | z
      · exact List.mem_append_left _ z
      · exact List.mem_append_right _ (k2 x z)
theorem putC_ok {K : PySem.W.Frag} {mg : Str → Option Value} {H S : Hp} {c d : Cell} {y p : PV} {v w z : V} {D : List Addr} (hD : CellOk K mg H S v c D) (hw : Rp K mg H w y) (hz : Rp K mg S z p) (e : putC c y p = some d) :
    ∃ b o, v = .ref b ∧ (∀ D, CellOk K mg H S v c D → b ∈ D ∧ ∃ D', CellOk K mg (upd H b o) S v d D' ∧ ∀ x ∈ D', x ∈ D) ∧ ∀ Q : Hp → Prop, Q (upd H b o) → rSetA v w z H Q := by
  cases c with
  | lst xs =>
    cases y with
    | int i =>
      simp only [putC, Option.map_eq_some_iff] at e
      obtain ⟨n, e1, rfl⟩ := e
      unfold CellOk at hD
      obtain ⟨a, vs, rfl, h1, h2, rfl⟩ := hD
      refine ⟨a, .lst (vs.set n z), rfl, fun D hD => ?_, fun Q q => .inl ⟨a, vs, i, n, rfl, rp_int hw, h1, by rw [h2.length]; exact e1, q⟩⟩
      unfold CellOk at hD
      obtain ⟨a', vs', e, g1, g2, rfl⟩ := hD
      cases e
      rw [h1] at g1
      cases g1
      exact ⟨List.mem_cons_self, [a], by unfold CellOk; exact ⟨a, _, rfl, upd_same, g2.set hz, rfl⟩, fun x hx => hx⟩
    | _ => cases e
  | ls cs =>
    cases y with
    | int i =>
      simp only [putC, Option.map_eq_some_iff] at e
      obtain ⟨n, e1, rfl⟩ := e
      unfold CellOk at hD
      obtain ⟨a, vs, Bs, rfl, h1, h2, h3, rfl⟩ := hD
      refine ⟨a, .lst (vs.set n z), rfl, fun D hD => ?_, fun Q q => .inl ⟨a, vs, i, n, rfl, rp_int hw, h1, by rw [h2.length]; exact e1, q⟩⟩
      unfold CellOk at hD
      obtain ⟨a', vs', Bs', e, g1, g2, g3, rfl⟩ := hD
      cases e
      rw [h1] at g1
      cases g1
      obtain ⟨B', k1, k2⟩ := CellsOk.setFz (n := n) hz (CellsOk.fr (H' := upd H a (.lst (vs.set n z))) (Same.refl _) _ _ _ g2 fun b hb => upd_ne fun z => g3 (z ▸ hb))
      refine ⟨List.mem_cons_self, a :: B', by unfold CellOk; exact ⟨a, _, B', rfl, upd_same, k1, fun q => g3 (k2 _ q), rfl⟩, fun x hx => ?_⟩
      rcases List.mem_cons.mp hx with rfl | hx
      · exact List.mem_cons_self
      · exact List.mem_cons_of_mem _ (k2 x hx)
    | _ => cases e
  | dct b kvs =>
    simp only [putC, Option.bind_eq_some_iff] at e
    obtain ⟨k, e1, e2⟩ := e
    split at e2
    · rename_i hl
      cases e2
      unfold CellOk at hD
      obtain ⟨a, ws, rfl, h1, h2, rfl⟩ := hD
      obtain ⟨o, ws', dp, dh, rr⟩ := dput_ok h1 h2 hw e1 hz hl
      refine ⟨a, o, rfl, fun D hD => ?_, fun Q q => .inr ⟨a, _, rfl, dp, q⟩⟩
      unfold CellOk at hD
      obtain ⟨a', ws2, e, g1, g2, rfl⟩ := hD
      cases e
      exact ⟨List.mem_cons_self, [a], by unfold CellOk; exact ⟨a, ws', rfl, by rw [upd_same]; exact dh, rr, rfl⟩, fun x hx => hx⟩
    · cases e2
  | fz q => cases e
  | obj C fs => cases e
theorem lg_ix (hu : X.A.units + 1 < cLine) {oe ie : E} (ho : LE X W o fo) (hi : LE X W i fi) (hs : isSlice i = false) : LG X W (.Subscript o i pos) (.ix oe ie) (fun p env => (fo env).bind fun r => (fi r.2).bind fun q => (optR (rdH q.2 q.1)).bind fun y => match vwC (unb q.1 q.2) r.1 with
    | some c => (optR (putC c y p)).bind fun d => wrt r.1 d (unb q.1 q.2)
    | none => .stuck) := by
  refine PG.imp (pg_sub ho hi (set_any hu) (by cases i <;> first | (intro _; rfl) | cases hs)) ?_
  rintro v σ H Q ⟨env, S, As, p, R, r, h⟩
  unfold PostG at h
  rw [Res.assoc] at h
  refine liftE.mono (bindE Stp.refl R h) ?_
  rintro x H1 ⟨rv, env1, S1, As1, B1, st1, R1, ok1, fr1, h1⟩
  dsimp only at h1
  rw [Res.assoc] at h1
  refine liftE.mono (bindE st1 R1 h1) ?_
  rintro y H2 ⟨rv2, env2, S2, As2, B2, st2, R2, ok2, fr2, h2⟩
  dsimp only at h2
  rw [Res.assoc] at h2
  obtain ⟨yp, e1, h2⟩ := h2.opt
  have hy := R2.rdH ok2 e1
  obtain ⟨As3, R3, st3, o3⟩ := unb_ok R2 ok2 (st1.trans st2) fun b hb => st1.fresh (fr2 b hb)
  have ok1' : RvOk X.K X.mg σ H2 S2 As3 x rv B1 := (ok1.stp st2).own (st3.root.trans (st1.trans st2).root.symm) fun b hb z => by
    rcases o3 b z with z | z
    · exact ((ok1.stp st2).there b hb).2.1 z
    · exact (fr2 b z).elim (ok1.there b hb).1 (ok1.there b hb).2.1
  cases hc : vwC (unb rv2 env2) rv with
  | none => rw [hc] at h2; exact False.elim h2
  | some c =>
    rw [hc] at h2
    dsimp only at h2
    rw [Res.assoc] at h2
    obtain ⟨d, e2, h2⟩ := h2.opt
    obtain ⟨D, hD⟩ := R3.vw ok1' hc
    obtain ⟨b, o', hb, w1, w2⟩ := putC_ok hD hy (Rp.mono (st1.same.trans st2.same) _ _ r) e2
    cases hw : wrt rv d (unb rv2 env2) with
    | stuck => rw [hw] at h2; exact False.elim h2
    | exc C fs' e' => cases rv <;> cases hw
    | ok env3 =>
      rw [hw] at h2
      obtain ⟨As4, R4, st4⟩ := wrt_ok R3 st3 ok1' fr1 hc hw w1 hb
      exact w2 _ (h2 σ _ S2 As4 ⟨rfl, fun _ _ => rfl⟩ st4 R4)
/-! ### try: .. except X: return constant -/
/-- the suite of a handler without a name -/
def plainH : Hd → Bool
  | .ret (.con _) => true
  | .pass => true
  | .cont => true
  | _ => false
def hdK (h : Hd) (K : PySem.W.Frag) (mg : Str → Option Value) : TS := match h with
  | .ret (.con p) => fun D σ H => ∀ v, (∀ S, Rp K mg S v p) → D.rt v H
  | .pass => fun D σ H => D.nx σ H
  | .cont => fun D σ H => D.ct σ H
  | _ => fun _ _ _ => False
theorem ls_tri {x : Str} {c : Addr} {body : List Stmt} {fb : Env → Res (Fl × Env)} {np pos' : Pos} {F : Sem} {h : Hd} {st0 : Stmt} (hst : X.stack = X.env :: X.outer) (hf : X.env.frame = some X.env.locals) (hc : Names X x (.ref c)) (tk : Takes X W)
    (hb : ∀ (W : WX) (pn : List (Addr × Obj)) (xe : Value → Shared → Prop), Takes (X.tr pn xe) W → PassesOwn (model X.prog X.w) X.A X.env xe → LSs (X.tr pn xe) W body fb)
    (hpl : plainH h = true) (hh : ∀ a oe pn, PS (X.suite a ((a, oe) :: pn)) st0 (hdK h X.K X.mg)) (hsub : ∀ C b, F.sub C x = some b → ∃ y, X.mg C = some (.ref y) ∧ PySem.W.exmOne X.K (.ref y) (.ref c) = some b) :
    LS X W (.Try body [.ExceptHandler (some (.Name x np)) none [st0] pos'] [] [] pos) (fun env => tryEnd F x none h (fb env)) := by
  refine PS.imp (ps_try_only (tb := fun W => liftS X.K X.mg W fb) (ts := fun a cls d => hdK h X.K X.mg) hst hf hc tk hb (fun a oe cls d pn _ _ => pss_one (hh a oe pn))) ?_
  rintro D σ H ⟨env, S, As, R, h0⟩
  refine ⟨env, S, As, R, ?_⟩
  dsimp only at h0
  cases hr : fb env with
  | stuck => rw [hr] at h0; exact False.elim h0
  | ok q => rw [hr] at h0; exact h0
  | exc C fs e1 =>
    rw [hr] at h0
    intro σ' H' S' As' cls d st R' ex
    have h1 : Post X.K X.mg W H S As (match F.sub C x with
      | some true => handle F h C fs e1
      | some false => .exc C fs e1
      | none => .stuck) (KS X.K X.mg D H S As) := h0
    cases hs : F.sub C x with
    | none => rw [hs] at h1; exact False.elim h1
    | some b =>
      rw [hs] at h1
      obtain ⟨y, hy, hx⟩ := hsub C b hs
      obtain ⟨⟨z, hz, rfl⟩, ex2⟩ := ex
      have : y = z := by rw [hy] at hz; cases hz; rfl
      subst this
      refine ⟨b, hx, fun hb a na => ?_, fun hb => ?_⟩
      · subst hb
        cases h with
        | ret e =>
          cases e with
          | con p => exact fun v rp => h1 σ' H' S' As' st R' v [] ⟨rp _, rfl⟩ fun b hb => by cases hb
          | fld f =>
            cases hpl
          | isi C => cases hpl
          | ite C a b => cases hpl
        | pass => exact h1 σ' H' S' As' st R'
        | cont => exact h1 σ' H' S' As' st R'
      · subst hb
        exact h1 σ' H' S' As' _ d st R' ⟨⟨y, hy, rfl⟩, ex2⟩
/-! ### try: .. except X as n: return n.f -/
/-- what a caught exception's class must say -/
structure XcA (K : PySem.W.Frag) (z : Addr) : Prop where
  xf : XfC K z
  nw : PySem.W.findIn K (.ref z) "word" = some none
  ec : ExcC K z
section
variable (K : PySem.W.Frag) (mg : Str → Option Value) (F : Sem)
/-- the value of a handler's expression -/
def tHe (x : Str) (i : Nat) (a : Addr) (cls : Value) (d : Option Addr) (h : HE) : TE := fun σ H Q => σ[i]? = some (some (.ref a)) ∧ ∃ S C fs p, Same S H ∧ ExOk K mg H S C fs cls d ∧ F.sub C x = some true ∧ heV F C fs h = some p ∧ ∀ v, Rp K mg S v p → Q v H
structure SubsOk : Prop where
  xc : ∀ C C' b, F.sub C C' = some b → ∃ z, mg C = some (.ref z) ∧ XcA K z
  sb : ∀ C C' b, F.sub C C' = some b → ∃ x y, mg C = some (.ref x) ∧ mg C' = some (.ref y) ∧ PySem.W.exmOne K (.ref x) (.ref y) = some b ∧ PySem.W.kitOne K (.ref x) (.ref y) = some b
end
/-- isinstance(n, C) -/
theorem call_isX {a D : Addr} {od : Option Addr} {oe : Obj} {pn : List (Addr × Obj)} (C : ExcC X.K D) (hz : Zc (.ref D) od oe) (hf : ∃ vs, oe.data = .fields vs) :
    CallR (X.suite a ((a, oe) :: pn)) (.builtin "isinstance") (fun xs H Q => (match od with | none => True | some dx => ∃ gs, H dx = some (.xd gs)) ∧ rIsE X.K D a xs H Q) := by
  intro pins s σ H xs us Q I r h
  obtain ⟨hd, c, cv, b, rfl, hcv, e, q⟩ := h
  cases r with
  | cons rx rr =>
    cases rr with
    | cons rt rr =>
      cases rr
      cases rx
      have ec := hcv _ rt
      subst ec
      obtain ⟨hget, _⟩ := I.pin (a, oe) (List.mem_append.mpr (.inl List.mem_cons_self))
      obtain ⟨vs, hv⟩ := hf
      have J : ∃ o, PySem.W.InstAt s.heap a oe D o := by
        obtain ⟨oc, odd, oda, osl⟩ := oe
        obtain ⟨h1, h2⟩ := hz
        dsimp only at h1 h2 hv
        subst h1 h2 hv
        cases odd with
        | none => exact ⟨none, hget, rfl, rfl, trivial⟩
        | some dx =>
          obtain ⟨gs, hg⟩ := hd
          have hx : ObjOk X.prog X.w H s.heap dx (.xd gs) := I.hok dx _ hg
          obtain ⟨mA, hns, hr⟩ := hx
          obtain ⟨od, ho, hl⟩ := lookIn_ns hns
          exact ⟨some od, hget, rfl, rfl, ho⟩
      obtain ⟨o, J⟩ := J
      have hcl : (PySem.W.clsIn X.K D).isSome = true := by
        obtain ⟨cdD, hcD, _⟩ := PySem.W.any_some C.hd
        rw [hcD]; rfl
      exact PySem.W.kia_one (PySem.W.kitx_exc hcl C.hg C.hk C.hs C.ha C.hn C.ht C.hm) I.kIn J e (fun z => nomatch z) fun tk => ⟨.bl b, H, I.kept (t' := tk) fun _ _ z => z, rfl, q⟩
section
variable {F : Sem} {a : Addr} {oe : Obj} {cls : Value} {d : Option Addr} {pn : List (Addr × Obj)} {i : Nat} {x n : Str} {h : HE}
theorem he_con {kc : Const} {p : PV} {j : Nat} (hc : ∃ v, (∀ Y : Cx, PE Y (.Constant kc j pos) (tC v)) ∧ ∀ (K : PySem.W.Frag) mg S, Rp K mg S v p) : PE (X.suite a ((a, oe) :: pn)) (.Constant kc j pos) (tHe X.K X.mg F x i a cls d (.con p)) := by
  obtain ⟨v, h1, h2⟩ := hc
  refine PE.imp (h1 _) ?_
  rintro σ H Q ⟨_, S, C, fs, q, _, _, _, e, k⟩
  cases e
  exact k v (h2 _ _ _)
theorem he_fld {p2 p3 : Pos} (O : SubsOk X.K X.mg F) (hi : X.N[i]? = some n) (hln : X.env.scope.names.lookup n = some .local) (hpn : plainName n = true) (hz : Zc cls d oe) (hf : ∃ vs, oe.data = .fields vs) :
    PE (X.suite a ((a, oe) :: pn)) (.Attribute (.Name n p2) "word" p3) (tHe X.K X.mg F x i a cls d (.fld "word")) := by
  obtain ⟨n1, n2, _⟩ := plain_ok hpn
  refine ⟨fun pins s σ H Q I h => ?_⟩
  obtain ⟨hs, S, C, fs, p, sm, ex, hb, e, k⟩ := h
  obtain ⟨z, hz1, xc⟩ := O.xc C x true hb
  obtain ⟨⟨c, hc, rfl⟩, ex2⟩ := ex
  rw [hz1] at hc
  cases hc
  have e : fs.lookup ("word" : Str) = some p := e
  cases fs with
  | nil => cases e
  | cons q0 qs =>
    obtain ⟨dx, gs, rfl, h1, h2⟩ := ex2
    obtain ⟨v, hv, rp⟩ := Rpf.lookup h2 e
    exact (pe_xf xc.xf xc.nw hz hf (pe_var (X := X.suite a ((a, oe) :: pn)) hi (.inl hln) n1 n2) rfl).run pins s σ H Q I ⟨.ref a, hs, rfl, rfl, dx, gs, v, rfl, h1, hv, k v rp⟩
theorem he_isi {C' : Str} {p1 p2 p3 : Pos} (O : SubsOk X.K X.mg F) (hi : X.N[i]? = some n) (hln : X.env.scope.names.lookup n = some .local) (hpn : plainName n = true) (hz : Zc cls d oe) (hf : ∃ vs, oe.data = .fields vs) (hg : Gl X "isinstance") (hm : X.mg "isinstance" = none) (hC : Gl X C') (hpC : plainName C' = true) :
    PE (X.suite a ((a, oe) :: pn)) (.Call (.Name "isinstance" p1) [.Name n p2, .Name C' p3] [] pos) (tHe X.K X.mg F x i a cls d (.isi C')) := by
  obtain ⟨n1, n2, _⟩ := plain_ok hpn
  obtain ⟨c1, c2, _⟩ := plain_ok hpC
  refine ⟨fun pins s σ H Q I h => ?_⟩
  obtain ⟨hs, S, C, fs, p, sm, ex, hb, e, k⟩ := h
  obtain ⟨z, hz1, xc⟩ := O.xc C x true hb
  obtain ⟨⟨c, hc, rfl⟩, ex2⟩ := ex
  rw [hz1] at hc
  cases hc
  simp only [heV, Option.map_eq_some_iff] at e
  obtain ⟨b, e1, rfl⟩ := e
  obtain ⟨y1, y2, g1, g2, g3, g4⟩ := O.sb C C' b e1
  rw [hz1] at g1
  cases g1
  have pC : PE (X.suite a ((a, oe) :: pn)) (.Name C' p3) (tC (.ref y2)) := ⟨fun pins s σ H Q I h => ld_glob I (show Gl (X.suite a ((a, oe) :: pn)) C' from hC) (show (X.suite a ((a, oe) :: pn)).mg C' = _ from g2) ⟨.ref y2, H, I, rfl, h⟩ c1⟩
  refine (pe_callB (call_isX xc.ec hz hf) (show Gl (X.suite a ((a, oe) :: pn)) "isinstance" from hg) hm (by decide +kernel) (pa_cons (pe_var (X := X.suite a ((a, oe) :: pn)) hi (.inl hln) n1 n2) (pa_cons pC pa_nil rfl) rfl) (by decide) (by decide) rfl rfl).run pins s σ H Q I ?_
  refine ⟨.ref a, hs, ?_, .ref y2, .ref y2, b, rfl, fun u hu => hu, g4, k _ (Rp.bl b)⟩
  cases fs with
  | nil =>
    have ex2 : d = none := ex2
    subst ex2
    trivial
  | cons q0 qs =>
    obtain ⟨dx, gs, rfl, h1, h2⟩ := ex2
    exact ⟨gs, h1⟩
theorem he_ite {C' : Str} {t e1 e2 : Expr} {h1 h2 : HE} (ht : PE (X.suite a ((a, oe) :: pn)) t (tHe X.K X.mg F x i a cls d (.isi C'))) (htt : ∀ whole, isTrue t X.env whole = (do let v ← whole; standAt t.pos; holding [v] (truthy v)))
    (ha : PE (X.suite a ((a, oe) :: pn)) e1 (tHe X.K X.mg F x i a cls d h1)) (hb : PE (X.suite a ((a, oe) :: pn)) e2 (tHe X.K X.mg F x i a cls d h2)) : PE (X.suite a ((a, oe) :: pn)) (.IfExp t e1 e2 pos) (tHe X.K X.mg F x i a cls d (.ite C' h1 h2)) := by
  refine PE.imp (pe_ifExp (pt_truth ht htt) ha hb) ?_
  rintro σ H Q ⟨hs, S, C, fs, p, sm, ex, hb, e, k⟩
  unfold heV at e
  refine ⟨hs, S, C, fs, ?_⟩
  cases hc : F.sub C C' with
  | none => rw [hc] at e; cases e
  | some b =>
    rw [hc] at e
    refine ⟨.bl b, sm, ex, hb, by unfold heV; rw [hc]; rfl, fun v rv => ?_⟩
    cases rp_bl rv
    refine ⟨b, rfl, ?_⟩
    cases b with
    | true => exact iteT ⟨hs, S, C, fs, p, sm, ex, hb, e, k⟩
    | false => exact iteF ⟨hs, S, C, fs, p, sm, ex, hb, e, k⟩
theorem ls_triN {c : Addr} {e : Expr} {body : List Stmt} {fb : Env → Res (Fl × Env)} {np p1 pos' : Pos} (hst : X.stack = X.env :: X.outer) (hf : X.env.frame = some X.env.locals) (hN : X.N.Nodup) (hi : X.N[i]? = some n) (hln : X.env.scope.names.lookup n = some .local) (hc : Names X x (.ref c)) (tk : Takes X W)
    (hb : ∀ (W : WX) (pn : List (Addr × Obj)) (xe : Value → Shared → Prop), Takes (X.tr pn xe) W → PassesOwn (model X.prog X.w) X.A X.env xe → LSs (X.tr pn xe) W body fb)
    (hm : X.mg x = some (.ref c)) (O : SubsOk X.K X.mg F) (hh : ∀ a oe cls d pn, Zc cls d oe → (∃ vs, oe.data = .fields vs) → PE (X.suite a ((a, oe) :: pn)) e (tHe X.K X.mg F x i a cls d h)) :
    LS X W (.Try body [.ExceptHandler (some (.Name x np)) (some n) [.Return (some e) p1] pos'] [] [] pos) (fun env => tryEnd F x (some i) (.ret h) (fb env)) := by
  refine PS.imp (ps_try_as (tb := fun W => liftS X.K X.mg W fb) (ts := fun a cls d D σ H => tHe X.K X.mg F x i a cls d h σ H fun v H => D.rt v H) hst hf hN hi hln hc tk hb (fun a oe cls d pn hz ho => pss_one (ps_ret (hh a oe cls d pn hz ho)))) ?_
  rintro D σ H ⟨env, S, As, R, h0⟩
  refine ⟨env, S, As, R, ?_⟩
  dsimp only at h0
  cases hr : fb env with
  | stuck => rw [hr] at h0; exact False.elim h0
  | ok q => rw [hr] at h0; exact h0
  | exc C fs e1 =>
    rw [hr] at h0
    intro σ' H' S' As' cls d st R' ex
    have hh : Post X.K X.mg W H S As (match F.sub C x with
      | some true => if i < e1.length then handle F (.ret h) C fs (e1.set i none) else .stuck
      | some false => .exc C fs e1
      | none => .stuck) (KS X.K X.mg D H S As) := h0
    clear h0
    cases hs : F.sub C x with
    | none => rw [hs] at hh; exact False.elim hh
    | some b =>
      rw [hs] at hh
      obtain ⟨y, y', hy, hy', hx, _⟩ := O.sb C x b hs
      rw [hm] at hy'
      cases hy'
      have ex0 := ex
      obtain ⟨⟨z, hz, rfl⟩, ex2⟩ := ex
      have : y = z := by rw [hy] at hz; cases hz; rfl
      subst this
      refine ⟨b, hx, fun hb a na => ?_, fun hb => ?_⟩
      · subst hb
        dsimp only at hh
        by_cases hlt : i < e1.length
        · rw [if_pos hlt] at hh
          dsimp only [handle] at hh
          cases hv : heV F C fs h with
          | none => rw [hv] at hh; exact False.elim hh
          | some p =>
            rw [hv] at hh
            obtain ⟨R2, st2⟩ := R'.drop i
            refine ⟨List.getElem?_set_self (by rw [R'.len]; exact hlt), S', C, fs, p, R'.sub, ex0, hs, hv, fun v rp => ?_⟩
            exact hh _ H' S' _ (st.trans st2) R2 v [] ⟨rp, rfl⟩ fun b hb => by cases hb
        · rw [if_neg hlt] at hh
          exact False.elim hh
      · subst hb
        exact hh σ' H' S' As' _ d st R' ⟨⟨y, hy, rfl⟩, ex2⟩
end
end
end PL
set_option Elab.async false
set_option linter.all false
set_option maxRecDepth 100000
set_option maxHeartbeats 4000000
namespace PL
open PySem PySem.Spec PyProof.Rows L2
section
variable {X : Cx} {e : Expr} {es : List Expr} {ta : TA} {p1 p2 pos : Pos} {x : Str} {CF : Addr} {mc : Value}
/-- Base.__init__(self, ..), Base an own class over ValueError -/
theorem pe_feinit {pl : PySem.Sem Bool} (hg : Gl X x) (hm : X.mg x = some (.ref CF)) (hdb : (x == ("__debug__" : Str)) = false) (g : PySem.W.specialIn X.K (.ref CF) "__getattribute__" = some (some (.builtin "type.__getattribute__")))
    (hr : PySem.W.readsIn X.K CF mc = true) (hv : PySem.W.findCls X.K (.ref CF) mc "__init__" = some (.val (.builtin "ValueError.__init__"))) (ha : PA X (e :: es) ta)
    (hc : eval (.Call (.Attribute (.Name x p1) "__init__" p2) (e :: es) [] pos) X.env = (do
      let ov ← eval (.Name x p1) X.env
      standAt p2.atName
      let (f, first) ← holding [ov] (getMethod ov "__init__" pl)
      callWith pos f first (backTo pos (starEach (e :: es) X.env)) (backToKw pos (keywordEach [] X.env))))
    (he : starEach (e :: es) X.env = (false, eval e X.env) :: starEach es X.env) (hpl : (backTo pos (starEach es X.env)).any (·.1) = false) :
    PE X (.Call (.Attribute (.Name x p1) "__init__" p2) (e :: es) [] pos) (tVeI X.K ta) := by
  refine ⟨fun pins s σ H Q I h => ?_⟩
  refine PySem.W.methodCall_KW (ld_glob I hg hm ?_ hdb) hc
  refine PySem.W.method_cls I.kIn g (PySem.W.cls_value I.kIn hr hv (by decide +kernel) ?_)
  show wpAny _ _ (callWith pos (Value.builtin "ValueError.__init__") [] (backTo pos (starEach (e :: es) X.env)) []) _ _ _
  refine PyProof.Rows.callWith_method1 (thn (ha.run pos pins _ σ H _ (I.tok _) h) fun us s1 ⟨vs, H1, I1, r1, a, C, ws, ev, hl, T, ea, q⟩ => ?_) he hpl
  subst ev
  cases r1 with
  | @cons _ u0 _ ur ra rw' =>
    obtain rfl : u0 = Value.ref a := ra
    have hlen : ur.length ≤ sizeLine := by
      rw [← Paired.length rw', sizeLine_eq]
      omega
    exact oinit_ok T I1 ea hlen fun s' J => ⟨.non, H1, J, rfl, q⟩
end
/-! ### the class's own __init__ -/
def spInit (K : PySem.W.Frag) (C : Addr) : Sp := fun vs H Q E => ∃ a v, vs = [V.ref a, v] ∧ H a = some (exo a C none) ∧ ∀ dx, H dx = none → dx ≠ a → Q .non (upd (upd H dx (exd dx [("word", v)])) a (exo a C (some dx)))
section
variable {P : Program} {w : World} {K : PySem.W.Frag} {mg : Str → Option Value} {base : Heap}
theorem init_ok {qual x : Str} {st : Stmt} {fI : Addr} {fd : FuncData} {k : Nat} {C CF : Addr} {mc : Value} (F : Fun K "__init__" qual st fI fd) (S : FnScope ["self", "word"] ["self", "word"] (defScope st)) (T : OexC K C) (nw : PySem.W.findIn K (.ref C) "word" = some none)
    (hm : mg x = some (.ref CF)) (hgl : (defScope st).names.lookup x = some .globalImplicit) (hself : (defScope st).names.lookup ("self" : Str) = some .local) (hword : (defScope st).names.lookup ("word" : Str) = some .local) (hdb : (x == ("__debug__" : Str)) = false) (g : PySem.W.specialIn K (.ref CF) "__getattribute__" = some (some (.builtin "type.__getattribute__")))
    (hr : PySem.W.readsIn K CF mc = true) (hv : PySem.W.findCls K (.ref CF) mc "__init__" = some (.val (.builtin "ValueError.__init__")))
    {p1 p2 p3 p4 p5 p6 q1 q2 q3 q4 : Pos} (hb : defBody st = [.Expr (.Call (.Attribute (.Name x p1) "__init__" p2) [.Name "self" p3, .Name "word" p4] [] p5) p6, .Assign [.Attribute (.Name "self" q1) "word" q2] (.Name "word" q3) q4])
    (hc : ∀ env : PySem.Env, ∃ pl : PySem.Sem Bool, eval (.Call (.Attribute (.Name x p1) "__init__" p2) [.Name "self" p3, .Name "word" p4] [] p5) env = (do
      let ov ← eval (.Name x p1) env
      standAt p2.atName
      let (f, first) ← holding [ov] (getMethod ov "__init__" pl)
      callWith p5 f first (backTo p5 (starEach [.Name "self" p3, .Name "word" p4] env)) (backToKw p5 (keywordEach [] env)))) :
    FnOk P w K mg base (L2.CX P w) (k + 1) fI fd ["self", "word"] (spInit K C) := by
  refine F.okX S (fun vs H Q E h => ?_) (fun cdv A outer s H vs Q E hrm h => ?_)
  · obtain ⟨a, v, rfl, _⟩ := h
    rfl
  · rw [hb]
    obtain ⟨a, v, rfl, ha, q⟩ := h
    obtain ⟨pl, hc⟩ := hc (cxOf (L2.CX P w) P w K mg base ["self", "word"] qual (defScope st) fI cdv A outer s H E).env
    refine ⟨_, pss_cons (ps_expr (pe_feinit (by exact hgl) hm hdb g hr hv (pa_cons (pe_var (i := 0) rfl (.inl hself) (by decide) (by decide)) (pa_cons (pe_var (i := 1) rfl (.inl hword) (by decide) (by decide)) pa_nil)) hc rfl rfl))
      (pss_one (ps_ost (pe_var (i := 0) rfl (.inl hself) (by decide) (by decide)) (pe_var (i := 1) rfl (.inl hword) (by decide) (by decide)))), ?_⟩
    refine ⟨.ref a, rfl, v, rfl, a, C, [v], rfl, (by show 1 ≤ 1000; decide), T, ha, ?_⟩
    refine ⟨v, rfl, .ref a, rfl, a, C, rfl, T, nw, .inl ⟨ha, fun dx hdx ne => ?_⟩⟩
    exact q dx hdx ne
end
theorem del_upd3 {H : Hp} {a dx : Addr} {u v w : HO} (ha : H a = none) (ne : dx ≠ a) : del (upd (upd (upd H a u) dx v) a w) a = upd H dx v := by
  funext b
  by_cases h : b = a
  · subst h
    rw [del_same, upd_ne (Ne.symm ne), ha]
  · rw [del_ne h, upd_ne h]
    by_cases h2 : b = dx
    · subst h2; rw [upd_same, upd_same]
    · rw [upd_ne h2, upd_ne h2, upd_ne h]
theorem upd_upd {H : Hp} {a : Addr} {u v : HO} : upd (upd H a u) a v = upd H a v := by
  funext b
  by_cases h : b = a
  · subst h; rw [upd_same, upd_same]
  · rw [upd_ne h, upd_ne h, upd_ne h]
/-- what the written part says of an own exception class with a word -/
structure WdF (P : Program) (w : World) (K : PySem.W.Frag) (mg : Str → Option Value) (base : Heap) (C : Str) : Prop where
  ex : ∃ a fI fd, mg C = some (.ref a) ∧ OexC K a ∧ PySem.W.findIn K (.ref a) "__init__" = some (some (.ref fI)) ∧ PySem.W.typeIn K (.ref fI) = some (.type "function") ∧ Binds K fd ["self", "word"] [] ∧
    (∀ k, FnOk P w K mg base (L2.CX P w) (k + 1) fI fd ["self", "word"] (spInit K a)) ∧ XfC K a ∧ PySem.W.findIn K (.ref a) "word" = some none
section
variable {X : Cx} {W : WX} {e : Expr} {fs : Env → Res (List PV × Env)} {p q pos : Pos} {C : Str} {k : Nat}
theorem pmk_word {a fI : Addr} {fd : FuncData} {te : TE} (T : OexC X.K a) (iC : PySem.W.findIn X.K (.ref a) "__init__" = some (some (.ref fI))) (tI : PySem.W.typeIn X.K (.ref fI) = some (.type "function")) (F : FnOk X.prog X.w X.K X.mg X.base (L2.CX X.prog X.w) (k + 1) fI fd ["self", "word"] (spInit X.K a)) (b : Binds X.K fd ["self", "word"] [])
    (hr : Room (k + 2) X.A) (hg : Gl X C) (hm : X.mg C = some (.ref a)) (hdb : (C == ("__debug__" : Str)) = false) (he : PE X e te) (mono : ∀ σ H Q Q', te σ H Q → (∀ v H, Q v H → Q' v H) → te σ H Q') (hs : starEach [e] X.env = (false, eval e X.env) :: starEach [] X.env) :
    PMk X (.Call (.Name C p) [e] [] pos) (fun σ H Q => te σ H fun v H1 => ∀ dx, H1 dx = none → Q (.ref a) (some dx) (upd H1 dx (.xd [("word", v)]))) := by
  intro pins s σ H Q I h
  refine pmk_oex T iC tI F hr b (ds := []) (dvs := []) .nil L2.passL hg hm (pa_cons he pa_nil hs) hdb hs rfl pins s σ H Q I ?_
  unfold tMkO
  show te σ H _
  refine mono σ H _ _ h fun v H1 q => ⟨by show 1 ≤ 1000; decide, fun a1 n1 => ⟨a1, v, rfl, upd_same, fun dx hdx ne => ⟨rfl, dx, [("word", v)], upd_same, ?_, ?_, ?_⟩⟩⟩
  · rw [upd_ne ne, upd_same]
  · rw [upd_ne ne] at hdx; exact hdx
  · rw [del_upd3 n1 ne, upd_upd]
    exact q dx (by rw [upd_ne ne] at hdx; exact hdx)
theorem ls_raw {fe : Env → Res (RV × Env)} (D : WdF X.prog X.w X.K X.mg X.base C) (hr : Room 2 X.A) (hc : X.calm = true) (tk : Takes X W) (hg : Gl X C) (hdb : (C == ("__debug__" : Str)) = false) (he : LE X W e fe) (hs : isStar e = false) :
    LS X W (.Raise (some (.Call (.Name C p) [e] [] q)) none pos) (fun env => (fe env).bind fun r => (optR (take r.1 r.2)).bind fun r => .exc C [("word", r.1)] r.2) := by
  obtain ⟨a, fI, fd, hm, T, iC, tI, b, F, _⟩ := D.ex
  refine PS.imp (ps_raise hc tk (pmk_word T iC tI (F 0) b hr hg hm hdb he (fun σ H Q Q' h f => liftE.mono h f) (star_cons (es := []) hs))) ?_
  rintro D σ H ⟨env, S, As, R, h⟩
  refine liftE.mono (bindE Stp.refl R h) ?_
  rintro v H1 ⟨rv, env1, S1, As1, B1, st1, R1, ok1, fr1, h1⟩ dx hdx
  obtain ⟨⟨p, env2⟩, e1, h1⟩ := h1.opt
  obtain ⟨S2, As2, R2, st2, rp, sm⟩ := take_ok R1 ok1 st1 fr1 e1
  obtain ⟨R3, st3⟩ := R2.layN (o := .xd [("word", v)]) hdx
  exact h1 σ _ S2 As2 (.ref a) (some dx) (st2.trans st3) R3 ⟨⟨a, hm, rfl⟩, dx, [("word", v)], rfl, upd_same, by
    unfold Rpf
    exact ⟨v, [], rfl, rp, by unfold Rpf; rfl⟩⟩
end
end PL
set_option Elab.async false
set_option linter.all false
set_option maxRecDepth 100000
set_option maxHeartbeats 4000000
namespace PL
open PySem PySem.Spec PyProof.Rows L2
/-! ### statements -/
def mkSs : List S → Ss
  | [] => .nil
  | s :: r => .cons s (mkSs r)
def swB (sc : Scope) (t : Str) (pos p1 : Pos) (scope : Scope) : Bool := onlyB sc t && (pos.line == p1.line) && !(scope.names.any fun (n, k) => n == t && (k == .local || k == .cell))
def foldB (es : List Expr) : Bool := es.all (foldedForSure 8)
def constB (es : List Expr) : Bool := es.all (constantsAlone 8)
def isTupLst : Expr → Bool
  | .Tuple .. => true
  | .List .. => true
  | _ => false
/-- no stores are swapped -/
def notLoc (sc : Scope) : Expr → Bool
  | .Name x _ => !onlyB sc x
  | _ => true
def swNone (sc : Scope) (t e : Expr) : Bool := !isTupLst t || (match e with
  | .Tuple es _ _ => foldB es || (match t with
    | .Tuple ts _ _ => ts.any (notLoc sc)
    | _ => false)
  | _ => true)
def isNameE : Expr → Bool
  | .Name .. => true
  | _ => false
/-- isinstance(n, C) -/
def isiOf (sc : Scope) (n' : Str) : Expr → Option Str
  | .Call (.Name f _) [.Name m _, .Name C _] [] _ => if f == ("isinstance" : Str) && (n' == m) && glB sc f && glB sc C && plainName C then some C else none
  | _ => none
/-- the value of an except suite's return -/
def trH (sc : Scope) (n' : Str) : Nat → Expr → Option HE
  | 0, _ => none
  | k + 1, e => match e with
    | .Constant kc _ _ => (conOf kc).map .con
    | .Attribute (.Name m _) f _ => if (n' == m) && (f == ("word" : Str)) then some (.fld f) else none
    | .IfExp t a b _ => match isiOf sc n' t, trH sc n' k a, trH sc n' k b with
      | some C, some a, some b => some (.ite C a b)
      | _, _, _ => none
    | e => (isiOf sc n' e).map .isi
def cPV : Expr → Option PV
  | .Constant k _ _ => conOf k
  | _ => none
section
variable (N : List Str) (c : Cfg) (sc : Scope)
abbrev allF : Str → Bool := fun _ => true
def asgTup (tr : Expr → E) (n : Nat) (t e : Expr) : S := if !isComp e && swNone sc t e then (match t with
    | .Tuple _ _ _ => (match trTg N sc allF n t with
        | some t => .asg t (tr e)
        | none => .bad)
    | _ => .bad) else .bad
def trS : Nat → Stmt → S
  | 0, _ => .bad
  | n + 1, st => match st with
    | .Expr (.Constant (.str _) _ _) _ => .pass
    | .Expr e _ => if isComp e then .bad else .expr (trE N c n sc allF e)
    | .Assign [.Name x px] e _ => if locB sc x then (match ixOf N x 0 with
        | some i => if isComp e then (if (atP c.frs e.pos || atP c.lks e.pos) = true then .bad else (match e with
          | .ListComp _ [_] _ _ => .asg (.nm i) (trE N c n sc allF e)
          | .ListComp _ [_, _] _ _ => .asg (.nm i) (trE N c n sc allF e)
          | .DictComp _ _ [_] _ _ => .asg (.nm i) (trE N c n sc allF e)
          | .DictComp _ _ [_, _] _ _ => .asg (.nm i) (trE N c n sc allF e)
          | _ => .bad)) else .asg (.nm i) (trE N c n sc allF e)
        | none => .bad) else .bad
    | .Assign [.Tuple [.Name x px, .Name y py] kt pt] (.Tuple [a, b] k2 pt2) _ =>
      if onlyB sc x && onlyB sc y && (py.line == px.line) && !(x == y) && noStar [a, b] && !foldB [a, b] && !constB [a, b] then (match ixOf N x 0, ixOf N y 0 with
        | some i, some j => if i == j then .bad else .par2 i j (trE N c n sc allF a) (trE N c n sc allF b)
        | _, _ => .bad) else asgTup N sc (trE N c n sc allF) n (.Tuple [.Name x px, .Name y py] kt pt) (.Tuple [a, b] k2 pt2)
    | .Assign [.Tuple [.Name x px, .Name y py, .Name z pz] kt pt] (.Tuple [a, b, d] k2 pt2) _ =>
      if onlyB sc x && onlyB sc y && onlyB sc z && (py.line == px.line) && (pz.line == px.line) && !(x == y) && !(x == z) && !(y == z) && noStar [a, b, d] && !foldB [a, b, d] && !constB [a, b, d] then (match ixOf N x 0, ixOf N y 0, ixOf N z 0 with
        | some i, some j, some l => if i == j || i == l || j == l then .bad else .par3 i j l (trE N c n sc allF a) (trE N c n sc allF b) (trE N c n sc allF d)
        | _, _, _ => .bad) else asgTup N sc (trE N c n sc allF) n (.Tuple [.Name x px, .Name y py, .Name z pz] kt pt) (.Tuple [a, b, d] k2 pt2)
    | .Assign [.Tuple es kt pt] e _ => asgTup N sc (trE N c n sc allF) n (.Tuple es kt pt) e
    | .Assign [.Subscript o i p] e _ => if !isComp e && !isSlice i then .asg (.ix (trE N c n sc allF o) (trE N c n sc allF i)) (trE N c n sc allF e) else .bad
    | .Assign [.Attribute o f _] e _ => if !isComp e && c.flds.contains f then .asg (.att (trE N c n sc allF o) f) (trE N c n sc allF e) else .bad
    | .AugAssign (.Name x _) o e _ => if locB sc x then (match bopOf o, ixOf N x 0 with
        | some .add, some i => .aug i .add (trE N c n sc allF e)
        | some .sub, some i => .aug i .sub (trE N c n sc allF e)
        | _, _ => .bad) else .bad
    | .If t a b _ => .ite (trE N c n sc allF t) (mkSs (a.map (trS n))) (mkSs (b.map (trS n)))
    | .For tg it b [] _ => if isSetE it then .bad else (match trTg N sc allF n tg with
        | some t => .forr t (itF (trE N c n sc allF) sc tg it) (mkSs (b.map (trS n)))
        | none => .bad)
    | .While t b [] _ => .whl (trE N c n sc allF t) (mkSs (b.map (trS n)))
    | .Return (some e) _ => .ret (trE N c n sc allF e)
    | .Return none _ => .retn
    | .Raise (some (.Call (.Name C _) [.Constant (.str m) _ _] [] _)) none _ => if c.excs.contains C && plainName C && glB sc C then .rai C
      else if c.wds.contains C && plainName C && glB sc C then .raw C (.cons (.con (.str m)) .nil) else .bad
    | .Try b [.ExceptHandler (some (.Name x _)) none [.Return (some e) _] _] [] [] _ => (match cPV e with
        | some p => if plainName x && glB sc x && c.xcs.contains x then .tri (mkSs (b.map (trS n))) x none (.ret (.con p)) else .bad
        | none => .bad)
    | .Try b [.ExceptHandler (some (.Name x _)) none [.Pass _] _] [] [] _ => if plainName x && glB sc x && c.xcs.contains x then .tri (mkSs (b.map (trS n))) x none .pass else .bad
    | .Try b [.ExceptHandler (some (.Name x _)) none [.Continue _] _] [] [] _ => if plainName x && glB sc x && c.xcs.contains x then .tri (mkSs (b.map (trS n))) x none .cont else .bad
    | .Try b [.ExceptHandler (some (.Name x _)) (some n') [.Return (some e) _] _] [] [] _ =>
      if plainName x && glB sc x && c.xcs.contains x && onlyB sc n' && plainName n' then (match ixOf N n' 0, trH sc n' n e with
        | some i, some h => .tri (mkSs (b.map (trS n))) x (some i) (.ret h)
        | _, _ => .bad) else .bad
    | .Pass _ => .pass
    | .Break _ => .brk
    | .Continue _ => .cnt
    | _ => .bad
end
/-- an own exception class -/
def ExF (K : PySem.W.Frag) (mg : Str → Option Value) (C : Str) : Prop := ∃ a B newId initId bmB, ExcBaseFacts B newId initId bmB ∧ PySem.W.excIn K a bmB newId = true ∧ mg C = some (.ref a) ∧ PySem.W.keepIn K (.ref a) = true ∧
  PySem.W.subIn K (.ref a) (.type "BaseException") = some true ∧ PySem.W.typeIn K (.ref a) = some (.type "type")
structure GoodS (Pg : Prog) (c : Cfg) (k : Nat) (N : List Str) (sc : Scope) (X : Cx) : Prop extends Good Pg c k N sc allF X where
  stack : X.stack = X.env :: X.outer
  frame : X.env.frame = some X.env.locals
  bk : sc.kind = .function
  passes : PassesOwn (model X.prog X.w) X.A X.env X.xe
  excs : ∀ C ∈ c.excs, ExF X.K X.mg C
  wds : ∀ C ∈ c.wds, WdF X.prog X.w X.K X.mg X.base C
  subs : ∀ F : Key → List Arg → FRes, SubsOk X.K X.mg ⟨F, Pg.con, Pg.sub, Pg.cls, Pg.has⟩
  xcs : ∀ C ∈ c.xcs, ∃ a, X.mg C = some (.ref a)
section
variable {Pg : Prog} {c : Cfg} {k : Nat} {N : List Str} {sc : Scope} {X : Cx} {W : WX}
theorem GoodS.block (G : GoodS Pg c k N sc X) : X.env.blockKind = .function := by
  unfold Env.blockKind
  rw [G.hsc, G.bk]
  rfl
theorem GoodS.tr (G : GoodS Pg c k N sc X) {pn : List (Addr × Obj)} {xe : Value → Shared → Prop} (h : PassesOwn (model X.prog X.w) X.A X.env xe) : GoodS Pg c k N sc (X.tr pn xe) :=
  { hN := G.hN, nd := G.nd, hsc := G.hsc, calm := G.calm, units := G.units, room := G.room, fnb := G.fnb, blts := G.blts, defs := G.defs, con := G.con, flds := G.flds, maks := G.maks, mets := G.mets, stack := G.stack, frame := G.frame, bk := G.bk, passes := h, excs := G.excs, wds := G.wds, subs := G.subs, xcs := G.xcs }
theorem sw_not {e : Expr} {t : Option Expr} {l : Nat} {env : PySem.Env} (h : isComp e = false) : swapsWith e t l env = pure false := by
  cases e <;> first | rfl | cases h
theorem sw_lc {e : Expr} {gs : List Comprehension} {scope : Scope} {p1 px : Pos} {x : Str} {l : Nat} {env : PySem.Env} (hb : env.blockKind = .function) : swapsWith (.ListComp e gs scope p1) (some (.Name x px)) l env = pure (swB env.scope x px p1 scope) := by
  show pure (env.blockKind == .function && env.kindOf x == some .local && px.line == p1.line && !(scope.names.any fun (n, k) => n == x && (k == .local || k == .cell))) = _
  rw [hb]
  unfold swB onlyB Env.kindOf
  congr 3
  cases env.scope.names.lookup x with
  | none => rfl
  | some q => cases q <;> rfl
theorem sw_dc {kx vx : Expr} {gs : List Comprehension} {scope : Scope} {p1 px : Pos} {x : Str} {l : Nat} {env : PySem.Env} (hb : env.blockKind = .function) : swapsWith (.DictComp kx vx gs scope p1) (some (.Name x px)) l env = pure (swB env.scope x px p1 scope) := by
  show pure (env.blockKind == .function && env.kindOf x == some .local && px.line == p1.line && !(scope.names.any fun (n, k) => n == x && (k == .local || k == .cell))) = _
  rw [hb]
  unfold swB onlyB Env.kindOf
  congr 3
  cases env.scope.names.lookup x with
  | none => rfl
  | some q => cases q <;> rfl
theorem sole_not {t e : Expr} {l : Nat} {env : PySem.Env} (h : isComp e = false) : swapsWithSole [t] e l env = pure false := sw_not h
theorem sole_tgt {t e : Expr} {l : Nat} {env : PySem.Env} (h : isNameE t = false) (hc : isComp e = false) : swapsWithSole [t] e l env = pure false := sw_not hc
theorem dups2 {x y : Str} (h : ¬ x = y) : [x, y].eraseDups = [x, y] := by
  have h' : (y == x) = false := by simpa using fun e => h e.symm
  simp [List.eraseDups, List.eraseDupsBy, List.eraseDupsBy.loop, h']
theorem dups3 {x y z : Str} (h : ¬ x = y) (h2 : ¬ x = z) (h3 : ¬ y = z) : [x, y, z].eraseDups = [x, y, z] := by
  have e1 : (y == x) = false := by simpa using fun e => h e.symm
  have e2 : (z == x) = false := by simpa using fun e => h2 e.symm
  have e3 : (z == y) = false := by simpa using fun e => h3 e.symm
  simp [List.eraseDups, List.eraseDupsBy, List.eraseDupsBy.loop, e1, e2, e3]
theorem ss_two {x y : Str} {px py pt pt2 : Pos} {kt k2 : Nat} {a b : Expr} {env : PySem.Env} (hb : env.blockKind = .function) (hx : env.scope.names.lookup x = some .local) (hy : env.scope.names.lookup y = some .local) (hl : (py.line == px.line) = true) (hxy : (x == y) = false)
    (hs : noStar [a, b] = true) (hf : foldB [a, b] = false) (hc : constB [a, b] = false) : swappedStores [.Tuple [.Name x px, .Name y py] kt pt] (.Tuple [a, b] k2 pt2) env = pure (some [x, y]) := by
  obtain ⟨s1, s2⟩ := noStar_cons hs
  have s2 := (noStar_cons s2).1
  unfold foldB at hf
  unfold constB at hc
  have hx' : env.kindOf x = some .local := hx
  have hy' : env.kindOf y = some .local := hy
  have hl' : py.line = px.line := by simpa using hl
  have hxy' : ¬ x = y := by simpa using hxy
  have d := dups2 hxy'
  unfold swappedStores
  simp [hb, hf, hc, hx', hy', hl', Expr.pos, d]
  intro hh
  exfalso
  rcases hh with hh | hh
  · cases a <;> cases s1 <;> cases hh
  · cases b <;> cases s2 <;> cases hh
theorem ss_three {x y z : Str} {px py pz pt pt2 : Pos} {kt k2 : Nat} {a b d : Expr} {env : PySem.Env} (hb : env.blockKind = .function) (hx : env.scope.names.lookup x = some .local) (hy : env.scope.names.lookup y = some .local) (hz : env.scope.names.lookup z = some .local) (hl : (py.line == px.line) = true) (hl2 : (pz.line == px.line) = true) (hxy : (x == y) = false) (hxz : (x == z) = false) (hyz : (y == z) = false)
    (hs : noStar [a, b, d] = true) (hf : foldB [a, b, d] = false) (hc : constB [a, b, d] = false) : swappedStores [.Tuple [.Name x px, .Name y py, .Name z pz] kt pt] (.Tuple [a, b, d] k2 pt2) env = pure (some [x, y, z]) := by
  obtain ⟨s1, s2⟩ := noStar_cons hs
  obtain ⟨s2, s3⟩ := noStar_cons s2
  have s3 := (noStar_cons s3).1
  unfold foldB at hf
  unfold constB at hc
  have hx' : env.kindOf x = some .local := hx
  have hy' : env.kindOf y = some .local := hy
  have hz' : env.kindOf z = some .local := hz
  have hl' : py.line = px.line := by simpa using hl
  have hl2' : pz.line = px.line := by simpa using hl2
  have dd := dups3 (by simpa using hxy) (by simpa using hxz) (by simpa using hyz)
  unfold swappedStores
  simp [hb, hf, hc, hx', hy', hz', hl', hl2', Expr.pos, dd]
  intro hh
  exfalso
  rcases hh with hh | hh | hh
  · cases a <;> cases s1 <;> cases hh
  · cases b <;> cases s2 <;> cases hh
  · cases d <;> cases s3 <;> cases hh
theorem names_lt {sc : Scope} {env : PySem.Env} (he : env.scope = sc) (l : Nat) : ∀ {ts : List Expr}, ts.any (notLoc sc) = true → (ts.filterMap fun
    | .Name id pos => if env.kindOf id == some .local && pos.line == l then some id else none
    | _ => none).length < ts.length
  | t :: ts, h => by
    have le : ∀ (ts : List Expr), (ts.filterMap fun
      | .Name id pos => if env.kindOf id == some .local && pos.line == l then some id else none
      | _ => none).length ≤ ts.length := fun ts => List.length_filterMap_le ..
    rw [List.filterMap_cons, List.length_cons]
    by_cases hn : notLoc sc t = true
    · have e : (match t with
        | .Name id pos => if env.kindOf id == some .local && pos.line == l then some id else none
        | _ => none) = none := by
        cases t <;> first | rfl | skip
        rename_i x p
        have hx : onlyB sc x = false := by simpa [notLoc] using hn
        have : (env.kindOf x == some .local) = false := by
          unfold Env.kindOf
          rw [he]
          unfold onlyB at hx
          cases q : sc.names.lookup x with
          | none => rfl
          | some z => rw [q] at hx; cases z <;> first | rfl | cases hx
        dsimp only
        rw [this]
        rfl
      split
      · exact Nat.lt_succ_of_le (le ts)
      · rename_i q
        rw [e] at q; cases q
    · have h : ts.any (notLoc sc) = true := by
        rw [List.any_cons] at h
        simpa [hn] using h
      have ih := names_lt he l h
      split
      · omega
      · rw [List.length_cons]; omega
theorem ss_none {sc : Scope} {t e : Expr} {env : PySem.Env} (he : env.scope = sc) (h : swNone sc t e = true) : swappedStores [t] e env = pure none := by
  unfold swappedStores
  unfold swNone at h
  cases t <;> first | rfl | skip
  · cases e <;> first | rfl | skip
    rename_i es ke pe
    have h : es.all (foldedForSure 8) = true := by simpa [isTupLst, foldB] using h
    simp only [h, if_true]
    repeat' (first | rfl | split)
  · cases e <;> first | rfl | skip
    rename_i ts kt pt es ke pe
    have h : es.all (foldedForSure 8) = true ∨ ts.any (notLoc sc) = true := by simpa [isTupLst, foldB] using h
    rcases h with h | h
    · simp only [h, if_true]
      repeat' (first | rfl | split)
    · have hl := names_lt he ((ts.head?.map (·.pos.line)).getD 0) h
      dsimp only
      split
      · rfl
      · split
        · rfl
        · split
          · rfl
          · rename_i q
            exact absurd (by rw [Bool.or_eq_true]; exact .inl (by rw [bne_iff_ne]; exact Nat.ne_of_lt hl)) q
theorem asgTup_ok {tr : Expr → E} {n : Nat} {t e : Expr} {pos : Pos} (G : GoodS Pg c k N sc X) (h : ∀ e, LE X W e (ev (Pg.sem k) (tr e)).e) : LS X W (.Assign [t] e pos) (evS (Pg.sem k) (asgTup N sc tr n t e)) := by
  unfold asgTup
  split
  · rename_i hc
    simp only [Bool.and_eq_true, Bool.not_eq_true'] at hc
    split
    · split
      · rename_i es kt pt t ht
        have hg := trTg_ok (W := W) (F := Pg.sem k) G.toGood ht
        have ht' : ∃ ts, t = .tup ts := by
          cases n with
          | zero => cases ht
          | succ n =>
            unfold trTg at ht
            dsimp only at ht
            split at ht
            · simp only [Option.map_eq_some_iff] at ht
              obtain ⟨ts, _, rfl⟩ := ht
              exact ⟨_, rfl⟩
            · cases ht
        obtain ⟨ts, rfl⟩ := ht'
        exact ls_asg (h e) hg (sole_not hc.1) (ss_none G.hsc hc.2) rfl
      · exact ls_bad fun _ => rfl
    · exact ls_bad fun _ => rfl
  · exact ls_bad fun _ => rfl
theorem raise_ok {C m : Str} {j : Nat} {p p2 q pos : Pos} (G : GoodS Pg c k N sc X) (tk : Takes X W) (hC : C ∈ c.excs) (hg : Gl X C) (hp : (C == ("__debug__" : Str)) = false) : LS X W (.Raise (some (.Call (.Name C p) [.Constant (.str m) j p2] [] q)) none pos) (fun env => .exc C [] env) := by
  obtain ⟨a, B, newId, initId, bmB, h1, h2, h3, h4, h5, h6⟩ := G.excs C hC
  exact ls_rai G.calm tk h3 (pmk_own h1 h2 h3 h4 (raises_own h5 h6) hg hp)
theorem lss_all {F : Sem} {tr : Stmt → S} (h : ∀ st, LS X W st (evS F (tr st))) : ∀ (sts : List Stmt), LSs X W sts (evSs F (mkSs (sts.map tr)))
  | [] => lss_nil
  | st :: r => lss_cons (h st) (lss_all h r)
theorem cPV_ok {e : Expr} {p : PV} (h : cPV e = some p) : ∃ v, (∀ Y : Cx, PE Y e (tC v)) ∧ ∀ (K : PySem.W.Frag) (mg : Str → Option Value) (S : Hp), Rp K mg S v p := by
  cases e with
  | Constant kc j q =>
    have h : conOf kc = some p := h
    cases kc with
    | none => cases h; exact ⟨.non, fun Y => pe_non, fun K mg S => Rp.non⟩
    | bool b => cases h; exact ⟨.bl b, fun Y => pe_bl, fun K mg S => Rp.bl b⟩
    | int i => cases h; exact ⟨.int i, fun Y => pe_int, fun K mg S => Rp.int i⟩
    | str x => cases h; exact ⟨.str x, fun Y => pe_str, fun K mg S => by unfold Rp; rfl⟩
    | _ => cases h
  | _ => cases h
theorem ls_lc_asg (G : GoodS Pg c k N sc X) (tk : Takes X W) {n i : Nat} {x : Str} {px p1 pos : Pos} {elt : Expr} {g : List Comprehension} {scope : Scope} (hi : X.N[i]? = some x) (hx : L2.Loc X.env.scope x) (hfr : atP c.frs p1 = false) (hlk : atP c.lks p1 = false) :
    LS X W (.Assign [.Name x px] (.ListComp elt g scope p1) pos) (evS (Pg.sem k) (.asg (.nm i) (trE N c n sc allF (.ListComp elt g scope p1)))) := by
  cases hw : swB X.env.scope x px p1 scope with
  | false => exact ls_set (by rw [G.hN]; exact G.nd) hi hx (trE_ok n sc allF X W _ G.toGood tk).el (by rw [sw_lc G.block, hw]) (.inl (G.fnb x rfl))
  | true =>
    cases n with
    | zero => exact ls_bad fun _ => rfl
    | succ n =>
      have ih := fun e => trE_ok n sc allF X W e G.toGood tk
      have ihb := fun s H scope C cl fp e => trE_ok n (relS scope sc) (cellB scope) (X.blk s H scope (compEnvC scope cl C X.env) fp) W0 e (G.toGood.blk s H scope C cl fp) takes0
      have tgb := fun s H scope C cl fp tg t (h : trTg N (relS scope sc) (cellB scope) n tg = some t) => trTg_ok (W := W0) (F := Pg.sem k) (G.toGood.blk s H scope C cl fp) h
      have hl : X.env.scope.names.lookup x = some .local := by
        unfold swB at hw
        simp only [Bool.and_eq_true] at hw
        exact onlyB_ok hw.1.1
      have nd : X.N.Nodup := by rw [G.hN]; exact G.nd
      unfold trE
      rw [show atP c.frs (Expr.ListComp elt g scope p1).pos = false from hfr, show atP c.lks (Expr.ListComp elt g scope p1).pos = false from hlk]
      unfold frzI lckI
      dsimp only
      split
      all_goals first | contradiction | skip
      · rename_i e tg it ifs sc2 p heq
        cases heq
        split
        · rename_i t ht
          split
          · rename_i hb
            simp only [Bool.and_eq_true, Bool.not_eq_true'] at hb
            have ok : BlkOk X.N X.env.scope scope (ownOf N scope) := by rw [G.hN, G.hsc]; exact blkOk_by hb.1.1
            split
            · exact ls_setLn (own := ownOf N scope) rfl G.calm nd hi hl (by rw [sw_lc G.block, hw]) (itE_ok G.toGood ih tg it) ok (sub_ok hb.1.2)
                (fun s H C cl fp => tgb s H scope C cl fp tg t ht) (fun s H C cl fp => tst_ok (fun e => (ihb s H scope C cl fp e).tl) ifs) (fun s H C cl fp => (ihb s H scope C cl fp elt).el) (fold_ok hb.2)
            · exact ls_setLc (own := ownOf N scope) rfl G.calm nd hi hl (by rw [sw_lc G.block, hw]) (itE_ok G.toGood ih tg it) ok (sub_ok hb.1.2)
                (fun s H C cl fp => tgb s H scope C cl fp tg t ht) (fun s H C cl fp => tst_ok (fun e => (ihb s H scope C cl fp e).tl) ifs) (fun s H C cl fp => (ihb s H scope C cl fp elt).el) (fold_ok hb.2)
          · exact ls_bad fun _ => rfl
        · exact ls_bad fun _ => rfl
      · rename_i e tg it ifs tg1 it1 ifs1 sc2 p heq
        cases heq
        split
        · rename_i t t1 ht ht1
          split
          · rename_i hb
            simp only [Bool.and_eq_true, Bool.not_eq_true'] at hb
            obtain ⟨⟨⟨⟨hb1, hb2⟩, hb3⟩, hb4⟩, hb5⟩ := hb
            have ok : BlkOk X.N X.env.scope scope (ownOf N scope) := by rw [G.hN, G.hsc]; exact blkOk_by hb1
            exact ls_setLc2 (own := ownOf N scope) rfl G.calm nd hi hl (by rw [sw_lc G.block, hw]) (itE_ok G.toGood ih tg it) ok (sub_ok hb3) (sub_ok hb2) (fun j hj => hj)
              (fun s H C cl fp => tgb s H scope C cl fp tg t ht) (fun s H C cl fp => tst_ok (fun e => (ihb s H scope C cl fp e).tl) ifs)
              (fun s H C cl fp => itF_ok (G.toGood.blk s H scope C cl fp) (ihb s H scope C cl fp) tg1 it1)
              (fun s H C cl fp => tgb s H scope C cl fp tg1 t1 ht1) (fun s H C cl fp => tst_ok (fun e => (ihb s H scope C cl fp e).tl) ifs1) (fun s H C cl fp => (ihb s H scope C cl fp elt).el) (fold_ok hb4) (fun env => fold_ok hb5)
          · exact ls_bad fun _ => rfl
        · exact ls_bad fun _ => rfl
      · exact ls_bad fun _ => rfl
theorem ls_dc_asg (G : GoodS Pg c k N sc X) (tk : Takes X W) {n i : Nat} {x : Str} {px p1 pos : Pos} {kx vx : Expr} {g : List Comprehension} {scope : Scope} (hi : X.N[i]? = some x) (hx : L2.Loc X.env.scope x) (hfr : atP c.frs p1 = false) (hlk : atP c.lks p1 = false) :
    LS X W (.Assign [.Name x px] (.DictComp kx vx g scope p1) pos) (evS (Pg.sem k) (.asg (.nm i) (trE N c n sc allF (.DictComp kx vx g scope p1)))) := by
  cases hw : swB X.env.scope x px p1 scope with
  | false => exact ls_set (by rw [G.hN]; exact G.nd) hi hx (trE_ok n sc allF X W _ G.toGood tk).el (by rw [sw_dc G.block, hw]) (.inl (G.fnb x rfl))
  | true =>
    cases n with
    | zero => exact ls_bad fun _ => rfl
    | succ n =>
      have ih := fun e => trE_ok n sc allF X W e G.toGood tk
      have ihb := fun s H scope C cl fp e => trE_ok n (relS scope sc) (cellB scope) (X.blk s H scope (compEnvC scope cl C X.env) fp) W0 e (G.toGood.blk s H scope C cl fp) takes0
      have tgb := fun s H scope C cl fp tg t (h : trTg N (relS scope sc) (cellB scope) n tg = some t) => trTg_ok (W := W0) (F := Pg.sem k) (G.toGood.blk s H scope C cl fp) h
      have hl : X.env.scope.names.lookup x = some .local := by
        unfold swB at hw
        simp only [Bool.and_eq_true] at hw
        exact onlyB_ok hw.1.1
      have nd : X.N.Nodup := by rw [G.hN]; exact G.nd
      unfold trE
      rw [show atP c.frs (Expr.DictComp kx vx g scope p1).pos = false from hfr, show atP c.lks (Expr.DictComp kx vx g scope p1).pos = false from hlk]
      unfold frzI lckI
      dsimp only
      split
      all_goals first | contradiction | skip
      · rename_i kx' vx' tg it ifs sc2 p heq
        cases heq
        split
        · rename_i t ht
          split
          · rename_i hb
            simp only [Bool.and_eq_true, Bool.not_eq_true'] at hb
            have ok : BlkOk X.N X.env.scope scope (ownOf N scope) := by rw [G.hN, G.hsc]; exact blkOk_by hb.1.1
            exact ls_setDc (own := ownOf N scope) (by have := G.units; omega) rfl G.calm nd hi hl (by rw [sw_dc G.block, hw]) (itE_ok G.toGood ih tg it) ok (sub_ok hb.1.2)
                (fun s H C cl fp => tgb s H scope C cl fp tg t ht) (fun s H C cl fp => tst_ok (fun e => (ihb s H scope C cl fp e).tl) ifs) (fun s H C cl fp => (ihb s H scope C cl fp kx).el) (fun s H C cl fp => (ihb s H scope C cl fp vx).el) (fold_ok hb.2)
          · exact ls_bad fun _ => rfl
        · exact ls_bad fun _ => rfl
      · rename_i kx' vx' tg it ifs tg1 it1 ifs1 sc2 p heq
        cases heq
        split
        · rename_i t t1 ht ht1
          split
          · rename_i hb
            simp only [Bool.and_eq_true, Bool.not_eq_true'] at hb
            obtain ⟨⟨⟨⟨hb1, hb2⟩, hb3⟩, hb4⟩, hb5⟩ := hb
            have ok : BlkOk X.N X.env.scope scope (ownOf N scope) := by rw [G.hN, G.hsc]; exact blkOk_by hb1
            exact ls_setDc2 (own := ownOf N scope) (by have := G.units; omega) rfl G.calm nd hi hl (by rw [sw_dc G.block, hw]) (itE_ok G.toGood ih tg it) ok (sub_ok hb3) (sub_ok hb2) (fun j hj => hj)
              (fun s H C cl fp => tgb s H scope C cl fp tg t ht) (fun s H C cl fp => tst_ok (fun e => (ihb s H scope C cl fp e).tl) ifs)
              (fun s H C cl fp => itF_ok (G.toGood.blk s H scope C cl fp) (ihb s H scope C cl fp) tg1 it1)
              (fun s H C cl fp => tgb s H scope C cl fp tg1 t1 ht1) (fun s H C cl fp => tst_ok (fun e => (ihb s H scope C cl fp e).tl) ifs1) (fun s H C cl fp => (ihb s H scope C cl fp kx).el) (fun s H C cl fp => (ihb s H scope C cl fp vx).el) (fold_ok hb4) (fun env => fold_ok hb5)
          · exact ls_bad fun _ => rfl
        · exact ls_bad fun _ => rfl
      · exact ls_bad fun _ => rfl
theorem isiOf_ok {n' : Str} {e : Expr} {C : Str} (h : isiOf sc n' e = some C) : ∃ p1 p2 p3 pos, e = .Call (.Name "isinstance" p1) [.Name n' p2, .Name C p3] [] pos ∧ glB sc "isinstance" = true ∧ glB sc C = true ∧ plainName C = true := by
  unfold isiOf at h
  split at h
  · split at h
    · rename_i hc
      cases h
      simp only [Bool.and_eq_true] at hc
      obtain ⟨⟨⟨⟨h1, h2⟩, h3⟩, h4⟩, h5⟩ := hc
      have h1 := eq_of_beq h1
      have h2 := eq_of_beq h2
      subst h1 h2
      exact ⟨_, _, _, _, rfl, h3, h4, h5⟩
    · cases h
  · cases h
theorem he_ok {F : Sem} (G : Good Pg c k N sc allF X) (O : SubsOk X.K X.mg F) {i : Nat} {n' x : Str} (hi : X.N[i]? = some n') (hln : X.env.scope.names.lookup n' = some .local) (hpn : plainName n' = true) {a : Addr} {oe : Obj} {cls : Value} {d : Option Addr} {pn : List (Addr × Obj)} (hz : Zc cls d oe) (hf : ∃ vs, oe.data = .fields vs) :
    ∀ {n : Nat} {e : Expr} {h : HE}, trH sc n' n e = some h → PE (X.suite a ((a, oe) :: pn)) e (tHe X.K X.mg F x i a cls d h)
  | 0, _, _, h => by cases h
  | n + 1, e, h, q => by
    have isi : ∀ {e : Expr} {C : Str}, isiOf sc n' e = some C → PE (X.suite a ((a, oe) :: pn)) e (tHe X.K X.mg F x i a cls d (.isi C)) := fun q => by
      obtain ⟨p1, p2, p3, pos, rfl, g1, g2, g3⟩ := isiOf_ok q
      exact he_isi O hi hln hpn hz hf (G.gl g1) (G.blts _ (by decide)) (G.gl g2) g3
    unfold trH at q
    split at q
    · rename_i kc j p
      simp only [Option.map_eq_some_iff] at q
      obtain ⟨v, q, rfl⟩ := q
      exact he_con (cPV_ok (e := .Constant kc j p) q)
    · rename_i m p2 f p3
      split at q
      · rename_i hc
        cases q
        simp only [Bool.and_eq_true] at hc
        have h1 := eq_of_beq hc.1
        have h2 := eq_of_beq hc.2
        subst h1 h2
        exact he_fld O hi hln hpn hz hf
      · cases q
    · rename_i t e1 e2 p
      split at q
      · rename_i C h1 h2 q1 q2 q3
        cases q
        refine he_ite (isi q1) ?_ (he_ok G O hi hln hpn hz hf q2) (he_ok G O hi hln hpn hz hf q3)
        obtain ⟨_, _, _, _, rfl, _⟩ := isiOf_ok q1
        exact fun _ => rfl
      · cases q
    · simp only [Option.map_eq_some_iff] at q
      obtain ⟨C, q, rfl⟩ := q
      exact isi q
theorem hd_con {e : Expr} {p : PV} {p1 : Pos} (h : cPV e = some p) {a : Addr} {oe : Obj} {pn : List (Addr × Obj)} : PS (X.suite a ((a, oe) :: pn)) (.Return (some e) p1) (hdK (.ret (.con p)) X.K X.mg) := by
  obtain ⟨v, h1, h2⟩ := cPV_ok h
  refine PS.imp (ps_ret (h1 _)) fun D σ H q => ?_
  exact q v (h2 _ _)
theorem trS_ok : ∀ (n : Nat) (st : Stmt) (X : Cx) (W : WX), GoodS Pg c k N sc X → Takes X W → LS X W st (evS (Pg.sem k) (trS N c sc n st))
  | 0, st, X, W, G, tk => ls_bad fun _ => rfl
  | n + 1, st, X, W, G, tk => by
    have ihe := fun e => trE_ok n sc allF X W e G.toGood tk
    have ih := fun st => trS_ok n st X W G tk
    have nd : X.N.Nodup := by rw [G.hN]; exact G.nd
    have loc : ∀ {x : Str}, locB sc x = true → L2.Loc X.env.scope x := fun h => by rw [G.hsc]; exact locB_ok h
    have only : ∀ {x : Str}, onlyB sc x = true → X.env.scope.names.lookup x = some .local := fun h => by rw [G.hsc]; exact onlyB_ok h
    have at' : ∀ {x : Str} {i : Nat}, ixOf N x 0 = some i → X.N[i]? = some x := fun h => by rw [G.hN]; exact ixOf_at h
    have bd : ∀ {st : Stmt}, LS X W st (evS (Pg.sem k) .bad) := ls_bad fun _ => rfl
    have tri1 : ∀ {b : List Stmt} {x : Str} {np pos' pos : Pos} {st0 : Stmt} {h : Hd} {fb : Env → Res (Fl × Env)}, plainName x = true → glB sc x = true → x ∈ c.xcs → (∀ (W : WX) (pn : List (Addr × Obj)) (xe : Value → Shared → Prop), Takes (X.tr pn xe) W → PassesOwn (model X.prog X.w) X.A X.env xe → LSs (X.tr pn xe) W b fb) → plainH h = true →
        (∀ a oe pn, PS (X.suite a ((a, oe) :: pn)) st0 (hdK h X.K X.mg)) → LS X W (.Try b [.ExceptHandler (some (.Name x np)) none [st0] pos'] [] [] pos) (fun env => tryEnd (Pg.sem k) x none h (fb env)) := by
      intro b x np pos' pos st0 h fb hp hg hx hb hpl hh
      obtain ⟨a, hm⟩ := G.xcs x hx
      exact ls_tri G.stack G.frame ⟨G.toGood.gl hg, (plain_ok hp).1, .inl hm⟩ tk hb hpl hh fun C b hC => by
        obtain ⟨y, z, h1, h2, h3, _⟩ := (G.subs (evF Pg k)).sb C x b hC
        rw [hm] at h2
        cases h2
        exact ⟨y, h1, h3⟩
    unfold trS
    split
    · exact ls_doc
    · split
      · exact bd
      · rename_i hc
        exact ls_expr (ihe _).el (sw_not (by simpa using hc))
    · -- x = e
      rename_i x px e pos
      split
      · rename_i hx
        split
        · rename_i i hi
          split
          · split
            · exact bd
            · rename_i hfr
              have hfr := Bool.eq_false_iff.mpr hfr
              rw [Bool.or_eq_false_iff] at hfr
              obtain ⟨hfr, hlk⟩ := hfr
              split
              · exact ls_lc_asg G tk (at' hi) (loc hx) hfr hlk
              · exact ls_lc_asg G tk (at' hi) (loc hx) hfr hlk
              · exact ls_dc_asg G tk (at' hi) (loc hx) hfr hlk
              · exact ls_dc_asg G tk (at' hi) (loc hx) hfr hlk
              · exact bd
          · rename_i hc
            exact ls_set nd (at' hi) (loc hx) (ihe _).el (sw_not (by simpa using hc)) (.inl (G.fnb x rfl))
        · exact bd
      · exact bd
    · rename_i x px y py kt pt a b k2 pt2 pos
      split
      · rename_i hc
        simp only [Bool.and_eq_true, Bool.not_eq_true'] at hc
        obtain ⟨⟨⟨⟨⟨⟨h1, h2⟩, h3⟩, h4⟩, h5⟩, h6⟩, h7⟩ := hc
        obtain ⟨s1, s2⟩ := noStar_cons h5
        obtain ⟨s2, _⟩ := noStar_cons s2
        split
        · rename_i i j hi hj
          split
          · exact bd
          · rename_i hij
            exact ls_par2 G.calm nd (at' hi) (at' hj) (by simpa using hij) (only h1) (only h2) (ihe a).el (ihe b).el (by rw [star_cons s1, star_cons s2]) (by rw [star_cons s2]) (ss_two G.block (only h1) (only h2) h3 h4 h5 h6 h7) (sole_not rfl)
        · exact bd
      · exact asgTup_ok G fun e => (ihe e).el
    · rename_i x px y py z pz kt pt a b d k2 pt2 pos
      split
      · rename_i hc
        simp only [Bool.and_eq_true, Bool.not_eq_true'] at hc
        obtain ⟨⟨⟨⟨⟨⟨⟨⟨⟨⟨h1, h2⟩, h2z⟩, h3⟩, h3z⟩, h4⟩, h4y⟩, h4z⟩, h5⟩, h6⟩, h7⟩ := hc
        obtain ⟨s1, s2⟩ := noStar_cons h5
        obtain ⟨s2, s3⟩ := noStar_cons s2
        obtain ⟨s3, _⟩ := noStar_cons s3
        split
        · rename_i i j l hi hj hl
          split
          · exact bd
          · rename_i hij
            simp only [Bool.or_eq_true, not_or, beq_iff_eq] at hij
            exact ls_par3 G.calm nd (at' hi) (at' hj) (at' hl) hij.1.1 hij.1.2 hij.2 (only h1) (only h2) (only h2z) (ihe a).el (ihe b).el (ihe d).el (by rw [star_cons s1, star_cons s2, star_cons s3]) (by rw [star_cons s2, star_cons s3]) (by rw [star_cons s3])
              (ss_three G.block (only h1) (only h2) (only h2z) h3 h3z h4 h4y h4z h5 h6 h7) (sole_not rfl)
        · exact bd
      · exact asgTup_ok G fun e => (ihe e).el
    · exact asgTup_ok G fun e => (ihe e).el
    · rename_i o i p e pos
      split
      · rename_i hc
        simp only [Bool.and_eq_true, Bool.not_eq_true'] at hc
        exact ls_asg (t := .ix (trE N c n sc allF o) (trE N c n sc allF i)) (ihe e).el (lg_ix (by have := G.units; omega) (ihe o).el (ihe i).el hc.2) (sole_not hc.1) (ss_none G.hsc rfl) rfl
      · exact bd
    · rename_i o f p e pos
      split
      · rename_i hc
        simp only [Bool.and_eq_true, Bool.not_eq_true'] at hc
        exact ls_fld (G.flds f (by simpa using hc.2)) (ihe o).el (ihe e).el (sw_not hc.1)
      · exact bd
    · rename_i x px o e pos
      split
      · rename_i hx
        split
        · rename_i i ho hi
          have := opOf_bop ho
          subst this
          exact ls_aug (.inl rfl) nd (at' hi) (loc hx) (ihe e).el (.inl (G.fnb x rfl))
        · rename_i i ho hi
          have := opOf_bop ho
          subst this
          exact ls_aug (.inr rfl) nd (at' hi) (loc hx) (ihe e).el (.inl (G.fnb x rfl))
        · exact bd
      · exact bd
    · exact ls_if (ihe _).tl (lss_all ih _) (lss_all ih _)
    · rename_i tg it b pos
      split
      · exact bd
      · rename_i hs
        split
        · rename_i t ht
          exact ls_for G.passes G.calm (itF_ok G.toGood ihe tg it) (trTg_ok (W := W) (F := Pg.sem k) G.toGood ht) (lss_all ih b) (fold_ok (by simpa using hs))
        · exact bd
    · exact ls_while G.passes (ihe _).tl (lss_all ih _)
    · exact ls_ret (ihe _).el
    · exact ls_retn
    · rename_i C p m j p2 q pos
      split
      · rename_i hc
        simp only [Bool.and_eq_true] at hc
        exact raise_ok G tk (by simpa using hc.1.1) (G.toGood.gl hc.2) (plain_ok hc.1.2).1
      · split
        · rename_i hc
          simp only [Bool.and_eq_true] at hc
          exact ls_raw (fe := fun env => .ok (.val (.str m), env)) (G.wds C (by simpa using hc.1.1)) (G.room.mono (by omega)) G.calm tk (G.toGood.gl hc.2) (plain_ok hc.1.2).1 (le_con pe_str fun S => by unfold Rp; rfl) rfl
        · exact bd
    · rename_i b x np e p1 p2 pos
      split
      · rename_i p hp
        split
        · rename_i hc
          simp only [Bool.and_eq_true] at hc
          exact tri1 hc.1.1 hc.1.2 (by simpa using hc.2) (fun W' pn xe tk' ps => lss_all (fun st => trS_ok n st _ W' (G.tr ps) tk') b) rfl fun a oe pn => hd_con hp
        · exact bd
      · exact bd
    · rename_i b x np p1 p2 pos
      split
      · rename_i hc
        simp only [Bool.and_eq_true] at hc
        exact tri1 hc.1.1 hc.1.2 (by simpa using hc.2) (fun W' pn xe tk' ps => lss_all (fun st => trS_ok n st _ W' (G.tr ps) tk') b) rfl fun a oe pn => PS.imp ps_pass fun _ _ _ h => h
      · exact bd
    · rename_i b x np p1 p2 pos
      split
      · rename_i hc
        simp only [Bool.and_eq_true] at hc
        exact tri1 hc.1.1 hc.1.2 (by simpa using hc.2) (fun W' pn xe tk' ps => lss_all (fun st => trS_ok n st _ W' (G.tr ps) tk') b) rfl fun a oe pn => PS.imp ps_continue fun _ _ _ h => h
      · exact bd
    · rename_i b x np n' e p1 p2 pos
      split
      · rename_i hc
        simp only [Bool.and_eq_true] at hc
        obtain ⟨⟨⟨⟨h1, h2⟩, h3⟩, h4⟩, h5⟩ := hc
        split
        · rename_i i h hi hh
          obtain ⟨a, hm⟩ := G.xcs x (by simpa using h3)
          exact ls_triN G.stack G.frame nd (at' hi) (only h4) ⟨G.toGood.gl h2, (plain_ok h1).1, .inl hm⟩ tk (fun W' pn xe tk' ps => lss_all (fun st => trS_ok n st _ W' (G.tr ps) tk') b) hm (G.subs _) fun a oe cls d pn hz hf => he_ok G.toGood (G.subs _) (at' hi) (only h4) h5 hz hf hh
        · exact bd
      · exact bd
    · exact ls_pass
    · exact ls_brk
    · exact ls_cnt
    · exact bd
end
end PL
set_option Elab.async false
set_option linter.all false
set_option maxRecDepth 100000
set_option maxHeartbeats 4000000
namespace PL
open PySem PySem.Spec PyProof.Rows L2
/-! ### defs -/
theorem getE_replicate (n i : Nat) : get (List.replicate n none) i = none := by
  unfold get
  by_cases h : i < n
  · rw [List.getElem?_replicate, if_pos h]; rfl
  · rw [List.getElem?_eq_none (by simpa using h)]; rfl
theorem get_app_lt {env e2 : Env} {i : Nat} (h : i < env.length) : get (env ++ e2) i = get env i := by
  unfold get; rw [List.getElem?_append_left h]
theorem get_app_ge {env e2 : Env} {i : Nat} (h : env.length ≤ i) : get (env ++ e2) i = get e2 (i - env.length) := by
  unfold get; rw [List.getElem?_append_right h]
theorem get_vals {ps : List PV} {i : Nat} {c : Cell} (h : get ((vals ps).map fun a => some (cellOf a)) i = some c) : ∃ p, ps[i]? = some p ∧ c = .fz p := by
  unfold get vals at h
  rw [List.map_map, List.getElem?_map] at h
  cases e : ps[i]? with
  | none => rw [e] at h; cases h
  | some p => rw [e] at h; cases h; exact ⟨p, rfl, rfl⟩
section
variable {K : PySem.W.Frag} {mg : Str → Option Value} {H S : Hp}
/-- what the slots own at a def's entry -/
def F0 (B : List Addr) : Fp := ⟨fun i => if i = 0 then B else [], B.head?⟩
theorem F0_at {B : List Addr} {i : Nat} : (F0 B) i = if i = 0 then B else [] := rfl
/-- at a def's entry -/
theorem start_rel {N : List Str} {d : Def} {vs : List V} {args : List Arg} {B : List Addr} (hd : d.ns = N.length) (hl : args.length = d.np) (hv : vs.length = d.np) (hle : d.np ≤ d.ns) (sub : Same S H) (ha : ArgsOk K mg H S vs args B) (hB : ∀ b ∈ B, S b = none) :
    Rel K mg (L2.start N vs) (env0 d args) H S (F0 B) := by
  have env_at : ∀ {i c}, get (env0 d args) i = some c → i < args.length ∧ get (args.map fun a => some (cellOf a)) i = some c := fun {i c} h => by
    unfold env0 at h
    by_cases hi : i < args.length
    · rw [get_app_lt (by simpa using hi)] at h
      exact ⟨hi, h⟩
    · rw [get_app_ge (by simpa using hi), getE_replicate] at h
      cases h
  have σ_at : ∀ {i v}, vs[i]? = some v → (L2.start N vs)[i]? = some (some v) := fun {i v} h => by
    unfold L2.start
    have hi := (List.getElem?_eq_some_iff.mp h).1
    rw [List.getElem?_append_left (by simpa using hi), List.getElem?_map, h]
    rfl
  refine ⟨sub, ?_, fun i c h => ?_, fun i h => ?_, fun i j a n h1 h2 => ?_, fun a h => ?_, fun a r h => ?_⟩
  · unfold L2.start env0
    simp only [List.length_append, List.length_map, List.length_replicate]
    omega
  · obtain ⟨hi, h⟩ := env_at h
    cases args with
    | nil => cases hi
    | cons a as =>
      cases a with
      | own c0 =>
        obtain ⟨v, r, ps, rfl, rfl, hc, hr⟩ := ha
        cases i with
        | zero =>
          have : c0 = c := by
            unfold get at h
            simpa [cellOf] using h
          subst this
          exact ⟨v, σ_at rfl, hc⟩
        | succ i =>
          have h : get ((vals ps).map fun a => some (cellOf a)) i = some c := by
            unfold get at h ⊢
            simpa using h
          obtain ⟨p, h1, rfl⟩ := get_vals h
          obtain ⟨w, h2, h3⟩ := hr.get h1
          exact ⟨w, σ_at (by rw [List.getElem?_cons_succ]; exact h2), by unfold CellOk; exact ⟨h3, rfl⟩⟩
      | val p =>
        obtain ⟨ps, rfl, rfl, hr⟩ := ha
        have h : get ((vals (p :: ps)).map fun a => some (cellOf a)) i = some c := h
        obtain ⟨q, h1, rfl⟩ := get_vals h
        obtain ⟨w, h2, h3⟩ := hr.get h1
        refine ⟨w, σ_at h2, ?_⟩
        unfold CellOk
        refine ⟨h3, ?_⟩
        rw [F0_at]
        split <;> rfl
  · rw [F0_at]
    split
    · rename_i e
      subst e
      cases args with
      | nil => exact ha.2
      | cons a as =>
        have e : get (env0 d (a :: as)) 0 = some (cellOf a) := rfl
        rw [e] at h; cases h
    · rfl
  · rw [F0_at] at h1 h2
    split at h1
    · split at h2
      · omega
      · cases h2
    · cases h1
  · obtain ⟨i, hi⟩ := h
    rw [F0_at] at hi
    split at hi
    · exact hB a hi
    · cases hi
  · have h : B = a :: r := h
    show B.head? = some a
    rw [h]; rfl
theorem own_start {B : List Addr} {b : Addr} : Own (F0 B) b ↔ b ∈ B := by
  constructor
  · rintro ⟨i, hi⟩
    rw [F0_at] at hi
    split at hi
    · exact hi
    · cases hi
  · intro h
    exact ⟨0, h⟩
/-- what a run leaves is what the promise wants -/
theorem end_reading {N : List Str} {d : Def} {vs : List V} {args : List Arg} {B : List Addr} {F : Sem} {Q : VK} {E : XK} (hd : d.ns = N.length) (hl : args.length = d.np) (hv : vs.length = d.np) (hle : d.np ≤ d.ns) (sub : Same S H) (ha : ArgsOk K mg H S vs args B) (hB : ∀ b ∈ B, S b = none)
    (h : match endDef args (evSs F d.body (env0 d args)) with
      | .ok r out => ∀ v H' S' Bo Br, CallEnd K mg H S B H' S' Bo Br → RetOk K mg H' S' v r Br → OutOk K mg H' S' vs out Bo → Q v H'
      | .exc C fs => ∀ cls d H' S', CallEnd K mg H S B H' S' [] [] → ExOk K mg H' S' C fs cls d → E cls d H'
      | .stuck => False) :
    liftS K mg (fun cls d _ H => E cls d H) (evSs F d.body) { nx := fun _ H' => Q .non H', rt := Q } (L2.start N vs) H := by
  refine ⟨env0 d args, S, _, start_rel hd hl hv hle sub ha hB, ?_⟩
  have fin : ∀ {σ' : SlotV} {env' : Env} {H' S' : Hp} {As' : Fp} {Br : List Addr}, Stp H S (F0 B) H' S' As' → Rel K mg σ' env' H' S' As' → (∀ b ∈ Br, (H b = none ∨ b ∈ B) ∧ ¬ Own As' b ∧ S' b = none) → ∀ Bo, (∀ b ∈ Bo, Own As' b) → CallEnd K mg H S B H' S' Bo Br :=
    fun {σ' env' H' S' As' Br} st R hb Bo hbo => by
      refine ⟨R.sub, st.same, fun b o e n => st.fr b o e fun z => n (own_start.mp z), fun b z => ?_, fun b z z2 => (hb b z).2.1 (hbo b z2), fun b z => (st.new b z).imp id fun q => q.imp own_start.mp id⟩
      rcases z with z | z
      · have q := hbo b z
        exact ⟨(st.own b q).imp own_start.mp id, R.free b q⟩
      · exact ⟨(hb b z).1.symm, (hb b z).2.2⟩
  have out : ∀ {σ' : SlotV} {env' : Env} {H' S' : Hp} {As' : Fp} {c : Cell}, Stp H S (F0 B) H' S' As' → Rel K mg σ' env' H' S' As' → isOwn args = true → get env' 0 = some c → isFz c = false → OutOk K mg H' S' vs (some c) (As' 0) :=
    fun {σ' env' H' S' As' c} st R ho hg hf => by
      obtain ⟨w, e1, hc⟩ := R.cell 0 c hg
      obtain ⟨a, r, e2, rfl⟩ := hc.rooted hf
      have e4 : B.head? = some a := st.root.symm.trans (R.anc a r e2)
      obtain ⟨r', e3⟩ : ∃ r', B = a :: r' := by
        cases B with
        | nil => cases e4
        | cons b r' => cases e4; exact ⟨r', rfl⟩
      cases args with
      | nil => cases ho
      | cons x as =>
        cases x with
        | val p => cases ho
        | own c0 =>
          obtain ⟨v, r, ps, rfl, rfl, hc0, hr⟩ := ha
          have := hc0.root e3
          subst this
          exact ⟨_, _, rfl, hc⟩
  cases hr : evSs F d.body (env0 d args) with
  | stuck => rw [hr] at h; exact False.elim h
  | exc C fs env1 =>
    rw [hr] at h
    intro σ' H' S' As' cls dd st R ex
    exact h cls dd H' S' (fin st R (fun b hb => by cases hb) [] fun b hb => by cases hb) ex
  | ok q =>
    obtain ⟨fl, env1⟩ := q
    rw [hr] at h
    intro σ' H' S' As' st R
    cases fl with
    | bk => exact False.elim h
    | ct => exact False.elim h
    | nx =>
      show Q .non H'
      rw [show endDef args (.ok (.nx, env1)) = (if isOwn args = true then (match get env1 0 with | some c => if isFz c = true then .stuck else .ok (.val .non) (some c) | none => .stuck) else .ok (.val .non) none) from rfl] at h
      by_cases ho : isOwn args = true
      · rw [if_pos ho] at h
        cases hg : get env1 0 with
        | none => rw [hg] at h; exact False.elim h
        | some c =>
          rw [hg] at h
          dsimp only at h
          by_cases hf : isFz c = true
          · rw [if_pos hf] at h; exact False.elim h
          · rw [if_neg hf] at h
            exact h .non H' S' (As' 0) [] (fin st R (fun b hb => by cases hb) _ fun b hb => ⟨0, hb⟩) ⟨Rp.non, rfl⟩ (out st R ho hg (by simpa using hf))
      · rw [if_neg ho] at h
        exact h .non H' S' [] [] (fin st R (fun b hb => by cases hb) _ fun b hb => by cases hb) ⟨Rp.non, rfl⟩ rfl
    | rt r =>
      intro v Br ok fr
      have hbr : ∀ b ∈ Br, (H b = none ∨ b ∈ B) ∧ ¬ Own As' b ∧ S' b = none := fun b hb => by
        refine ⟨(fr b hb).imp id own_start.mp, ?_⟩
        cases r with
        | val p => rw [ok.2] at hb; cases hb
        | loc j => rw [ok.2] at hb; cases hb
        | new c => exact ok.2 b hb
        | brw j p c => exact False.elim h
      have key : ∀ r', (match r' with | .loc _ => False | _ => True) → RetOk K mg H' S' v r' Br → endDef args (.ok (.rt r', env1)) = (if isOwn args = true then (match get env1 0 with | some c => if isFz c = true then .stuck else .ok r' (some c) | none => .stuck) else .ok r' none) →
          (match endDef args (.ok (.rt r', env1)) with
          | .ok r out => ∀ v H' S' Bo Br, CallEnd K mg H S B H' S' Bo Br → RetOk K mg H' S' v r Br → OutOk K mg H' S' vs out Bo → Q v H'
          | .exc C fs => ∀ cls d H' S', CallEnd K mg H S B H' S' [] [] → ExOk K mg H' S' C fs cls d → E cls d H'
          | .stuck => False) → Q v H' := fun r' _ rok e h => by
        rw [e] at h
        by_cases ho : isOwn args = true
        · rw [if_pos ho] at h
          cases hg : get env1 0 with
          | none => rw [hg] at h; exact False.elim h
          | some c =>
            rw [hg] at h
            dsimp only at h
            by_cases hf : isFz c = true
            · rw [if_pos hf] at h; exact False.elim h
            · rw [if_neg hf] at h
              exact h v H' S' (As' 0) Br (fin st R hbr _ fun b hb => ⟨0, hb⟩) rok (out st R ho hg (by simpa using hf))
        · rw [if_neg ho] at h
          exact h v H' S' [] Br (fin st R hbr _ fun b hb => by cases hb) rok rfl
      cases r with
      | loc j => exact False.elim h
      | brw j p c => exact False.elim h
      | val p => exact key (.val p) trivial ok rfl h
      | new c => exact key (.new c) trivial ok.1 rfl h
end
section
variable {P : Program} {w : World} {K : PySem.W.Frag} {mg : Str → Option Value} {base : Heap} {Pg : Prog} {c : Cfg}
/-- a def of the text, for the tree at key κ -/
structure DOk (Pg : Prog) (c : Cfg) (K : PySem.W.Frag) (x qual : Str) (κ : Key) (df : List (List PV)) (mg : Str → Option Value) (f : Addr) : Prop where
  ex : ∃ fd st N ps fuel dvs, FunD K x qual (defArgs st) (defBody st) (defScope st) dvs [] f fd ∧ FnScope N ps (defScope st) ∧ Binds K fd ps [] ∧ ps.length ≤ N.length ∧
    (∀ dp ∈ df, ∃ ds dvs, Binds K fd ps ds ∧ Vals dvs ds ∧ ∀ S, Rps K mg S dvs dp) ∧
    Pg.defs κ = some ⟨ps.length, N.length, mkSs ((defBody st).map (trS N c (defScope st) fuel))⟩
/-- what the top has written, for the program's tree -/
structure Top (Pg : Prog) (c : Cfg) (K : PySem.W.Frag) (mg : Str → Option Value) : Prop where
  blts : ∀ f ∈ bNames, mg f = none
  defs : ∀ x ∈ c.fns, ∃ f, mg x = some (.ref f) ∧ DOk Pg c K x x (.fn x) (c.dfl x) mg f
  con : ∀ x p, Pg.con x = some p → ∃ v u, mg x = some u ∧ RelV v u ∧ ∀ S, Rp K mg S v p
  excs : ∀ C ∈ c.excs, ExF K mg C
  wds : ∀ C ∈ c.wds, ∀ P w base, WdF P w K mg base C
  subs : ∀ F : Key → List Arg → FRes, SubsOk K mg ⟨F, Pg.con, Pg.sub, Pg.cls, Pg.has⟩
  xcs : ∀ C ∈ c.xcs, ∃ a, mg C = some (.ref a)
  flds : ∀ f ∈ c.flds, FldOk K mg Pg.cls f
  maks : ∀ C ∈ c.cls, ∃ cA g q, mg C = some (.ref cA) ∧ Mk K cA g ∧ DOk Pg c K "__init__" q (.mt C "__init__") [] mg g
  mets : ∀ m ∈ c.mets, ∀ C, Pg.has C m = true → ∃ cA g q, mg C = some (.ref cA) ∧ Cls K cA ∧ Meth K cA m g ∧ DOk Pg c K m q (.mt C m) [] mg g
/-- every def, where calls may go so deep -/
structure AllAt (Pg : Prog) (c : Cfg) (P : Program) (w : World) (K : PySem.W.Frag) (mg : Str → Option Value) (base : Heap) (k : Nat) : Prop where
  defs : ∀ f ∈ c.fns, ∃ a, mg f = some (.ref a) ∧ FnAt P w K mg base (2 * k + 2) a (c.dfl f) (evF Pg k (.fn f))
  maks : ∀ C ∈ c.cls, ∃ cA g, mg C = some (.ref cA) ∧ Mk K cA g ∧ FnAt P w K mg base (2 * k + 2) g [] (evF Pg k (.mt C "__init__"))
  mets : ∀ m ∈ c.mets, ∀ C, Pg.has C m = true → ∃ cA g, mg C = some (.ref cA) ∧ Cls K cA ∧ Meth K cA m g ∧ FnAt P w K mg base (2 * k + 2) g [] (evF Pg k (.mt C m))
theorem fn_okk (T : Top Pg c K mg) {k : Nat} (ih : AllAt Pg c P w K mg base k) {x qual : Str} {κ : Key} {f : Addr} {fd : FuncData} {st : Stmt} {N ps : List Str} {fuel : Nat} {dvs : List V}
    (h2 : FunD K x qual (defArgs st) (defBody st) (defScope st) dvs [] f fd) (h3 : FnScope N ps (defScope st)) (h5 : ps.length ≤ N.length) (h6 : Pg.defs κ = some ⟨ps.length, N.length, mkSs ((defBody st).map (trS N c (defScope st) fuel))⟩) :
    FnOk P w K mg base (L2.CX P w) (2 * k + 4) f fd ps (spL K mg ps.length (evF Pg (k + 1) κ)) ∧ ∀ args, evF Pg (k + 1) κ args ≠ .stuck → args.length = ps.length := by
  have hm : ∀ args, evF Pg (k + 1) κ args = runD (Pg.sem k) ⟨ps.length, N.length, mkSs ((defBody st).map (trS N c (defScope st) fuel))⟩ args := fun args => by
    show (match Pg.defs κ with | some d => runD (Pg.sem k) d args | none => .stuck) = _
    rw [h6]
  refine ⟨h2.ok h3 (fun vs H Q E q => q.1) ?_, fun args z => ?_⟩
  · intro cdv A outer s H vs Q E hr hsp
    obtain ⟨hv, args, S, B, sub, ha, hB, hp⟩ := hsp
    let X := cxOf (L2.CX P w) P w K mg base N qual (defScope st) f cdv A outer s H E
    have G : GoodS Pg c k N (defScope st) X := {
      hN := rfl
      nd := h3.nd
      hsc := rfl
      calm := rfl
      units := by
        have := hr.un
        show (A.deeper _).units + 65 < cLine
        omega
      room := hr
      fnb := fun _ _ => rfl
      blts := T.blts
      defs := ih.defs
      con := T.con
      flds := T.flds
      maks := ih.maks
      mets := ih.mets
      stack := rfl
      frame := rfl
      bk := h3.kind
      passes := passes_of (E₁ := fun e' s'' => L2.CX P w outer H s E e' s'') (K := fun e s'' => L2.CX P w outer H s E e s'') rfl
      excs := T.excs
      wds := fun C hC => T.wds C hC P w base
      subs := T.subs
      xcs := T.xcs }
    have tk : Takes X (fun cls d _ H => E cls d H) := takes_of (E₁ := fun e' s'' => L2.CX P w outer H s E e' s'') rfl rfl rfl rfl
    refine ⟨_, lss_all (fun st' => trS_ok fuel st' X _ G tk) (defBody st), ?_⟩
    rw [hm] at hp
    unfold runD at hp
    by_cases hc : args.length = ps.length ∧ ps.length ≤ N.length
    · rw [if_pos hc] at hp
      exact end_reading (d := ⟨ps.length, N.length, mkSs ((defBody st).map (trS N c (defScope st) fuel))⟩) rfl hc.1 hv h5 sub ha hB hp
    · rw [if_neg hc] at hp
      exact False.elim hp
  · rw [hm] at z
    unfold runD at z
    by_cases hc : args.length = ps.length ∧ ps.length ≤ N.length
    · exact hc.1
    · rw [if_neg hc] at z
      exact absurd rfl z
theorem DOk.zero {x qual : Str} {κ : Key} {df : List (List PV)} {f : Addr} (D : DOk Pg c K x qual κ df mg f) : FnAt P w K mg base 2 f df (evF Pg 0 κ) := by
  obtain ⟨fd, st, N, ps, fuel, dvs, h2, h3, h4, h5, hd, h6⟩ := D.ex
  exact ⟨⟨fd, ps, ⟨fun vs H Q E q => q.1, fun A outer s H args us vs Q E _ _ _ _ hs => by
    obtain ⟨_, _, _, _, _, _, _, z⟩ := hs
    exact False.elim z⟩, h4, fun args z => absurd rfl z, hd⟩, h2.kp⟩
theorem DOk.succ (T : Top Pg c K mg) {k : Nat} (ih : AllAt Pg c P w K mg base k) {x qual : Str} {κ : Key} {df : List (List PV)} {f : Addr} (D : DOk Pg c K x qual κ df mg f) : FnAt P w K mg base (2 * (k + 1) + 2) f df (evF Pg (k + 1) κ) := by
  obtain ⟨fd, st, N, ps, fuel, dvs, h2, h3, h4, h5, hd, h6⟩ := D.ex
  obtain ⟨a, b⟩ := fn_okk T ih h2 h3 h5 h6
  exact ⟨⟨fd, ps, a, h4, b, hd⟩, h2.kp⟩
theorem all_at (T : Top Pg c K mg) : ∀ (k : Nat), AllAt Pg c P w K mg base k
  | 0 => ⟨fun x hx => by
      obtain ⟨f, h1, D⟩ := T.defs x hx
      exact ⟨f, h1, D.zero⟩, fun C hC => by
      obtain ⟨cA, g, q, h1, h2, D⟩ := T.maks C hC
      exact ⟨cA, g, h1, h2, D.zero⟩, fun m hm C hC => by
      obtain ⟨cA, g, q, h1, h2, h3, D⟩ := T.mets m hm C hC
      exact ⟨cA, g, h1, h2, h3, D.zero⟩⟩
  | k + 1 => ⟨fun x hx => by
      obtain ⟨f, h1, D⟩ := T.defs x hx
      exact ⟨f, h1, D.succ T (all_at T k)⟩, fun C hC => by
      obtain ⟨cA, g, q, h1, h2, D⟩ := T.maks C hC
      exact ⟨cA, g, h1, h2, D.succ T (all_at T k)⟩, fun m hm C hC => by
      obtain ⟨cA, g, q, h1, h2, h3, D⟩ := T.mets m hm C hC
      exact ⟨cA, g, h1, h2, h3, D.succ T (all_at T k)⟩⟩
end
end PL
set_option Elab.async false
set_option linter.all false
set_option maxRecDepth 100000
set_option maxHeartbeats 4000000
namespace PL
open PySem PySem.Spec PyProof.Rows L2
/-! ### the law's end -/
section
variable {P : Program} {w : World} {K : PySem.W.Frag} {mg : Str → Option Value} {base : Heap} {Pg : Prog} {c : Cfg}
/-- a def as the text says -/
structure DF (K : PySem.W.Frag) (x : Str) (st : Stmt) (ps : List Str) : Prop where
  ex : ∃ f fd, PySem.W.nsIn K mainGlobals x = some (some (.ref f)) ∧ Fun K x x st f fd ∧ Binds K fd ps [] ∧ ∀ (s : Shared) (us : List Value), us.length = ps.length → BindsTo s fd ⟨us, []⟩ (ps.zip us)
theorem df_mk {x : Str} {st : Stmt} {ps : List Str} {f : Addr} {oc : Value} {od an : Option Addr} {osl : Array (Option Value)} {kV doc pm cdv ct : Value} (a : PySem.W.nsIn K mainGlobals x = some (some (.ref f)))
    (l : K.lookup f = some ⟨oc, od, .func (PySem.W.fnOf x x (defArgs st) (defBody st) (defScope st) .none kV doc pm an cdv ct), osl⟩) (c : PySem.W.codeIn K cdv x = true) (k : PySem.W.keepIn K (.ref f) = true)
    (b : ∀ (kV doc pm : Value) (an : Option Addr) (cdv ct : Value) (us : List Value), us.length = ps.length → bindArgs (PySem.W.fnOf x x (defArgs st) (defBody st) (defScope st) .none kV doc pm an cdv ct) ⟨us, []⟩ = pure (ps.zip us)) : DF K x st ps :=
  ⟨f, _, a, fun_mk l c k, (fun_mk l c k).binds b, fun s us h => .of_eq (b _ _ _ _ _ _ us h)⟩
theorem Fun.d {x qual : Str} {st : Stmt} {f : Addr} {fd : FuncData} (F : Fun K x qual st f fd) : FunD K x qual (defArgs st) (defBody st) (defScope st) [] [] f fd := by
  obtain ⟨oc, od, kV, doc, pm, an, cdv, ct, osl, e, lk, hcd⟩ := F.ex
  exact ⟨⟨oc, od, .none, kV, doc, pm, an, cdv, ct, osl, e, lk, hcd, .inl ⟨rfl, rfl⟩, .inl rfl⟩, F.kp⟩
theorem DF.ok {x : Str} {st : Stmt} {ps : List Str} {h : Heap} (D : DF K x st ps) (X : K.In h) (G : h.Ns mainGlobals mg) (N : List Str) (fuel : Nat) (S : FnScope N ps (defScope st)) (hl : ps.length ≤ N.length)
    (hp : Pg.defs (.fn x) = some ⟨ps.length, N.length, mkSs ((defBody st).map (trS N c (defScope st) fuel))⟩) (hd : c.dfl x = []) : ∃ f, mg x = some (.ref f) ∧ DOk Pg c K x x (.fn x) (c.dfl x) mg f := by
  obtain ⟨f, fd, h1, h2, h3, _⟩ := D.ex
  exact ⟨f, PySem.W.mg_of X G h1, ⟨fd, st, N, ps, fuel, [], Fun.d h2, S, h3, hl, (by rw [hd]; exact fun _ hy => (by cases hy)), hp⟩⟩
/-- a def with defaults -/
structure DD (K : PySem.W.Frag) (x : Str) (st : Stmt) (ps : List Str) (df : List (List PV)) : Prop where
  ex : ∃ f fd dvs, PySem.W.nsIn K mainGlobals x = some (some (.ref f)) ∧ FunD K x x (defArgs st) (defBody st) (defScope st) dvs [] f fd ∧ Binds K fd ps [] ∧ ∀ mg, ∀ dp ∈ df, ∃ ds dvs, Binds K fd ps ds ∧ Vals dvs ds ∧ ∀ S, Rps K mg S dvs dp
/-- how n arguments bind, the defaults behind the first j fill up -/
def BindD (x : Str) (st : Stmt) (ps : List Str) (m n j : Nat) : Prop := ∀ (T : Addr) (kV doc pm : Value) (an : Option Addr) (cdv ct : Value) (us its : List Value), us.length = n → its.length = m →
      ∃ k, bindArgs (PySem.W.fnOf x x (defArgs st) (defBody st) (defScope st) (.ref T) kV doc pm an cdv ct) ⟨us, []⟩ = seqItems? (.ref T) >>= k ∧ k (some its.toArray) = pure (ps.zip (us ++ its.drop j))
theorem dd_mk {x : Str} {st : Stmt} {ps : List Str} {df : List (List PV)} {dvs : List V} {f T : Addr} {o : Obj} {its : List Value} {n : Nat} {oc : Value} {od an : Option Addr} {osl : Array (Option Value)} {kV doc pm cdv ct : Value} (a : PySem.W.nsIn K mainGlobals x = some (some (.ref f)))
    (l : K.lookup f = some ⟨oc, od, .func (PySem.W.fnOf x x (defArgs st) (defBody st) (defScope st) (.ref T) kV doc pm an cdv ct), osl⟩) (c : PySem.W.codeIn K cdv x = true) (k : PySem.W.keepIn K (.ref f) = true) (lT : K.lookup T = some o) (oT : o.data = .seq its.toArray n) (rT : Vals dvs its) (hne : dvs ≠ [])
    (b0 : BindD x st ps dvs.length ps.length dvs.length) (bs : ∀ dp ∈ df, ∃ n j, n + (dvs.length - j) = ps.length ∧ BindD x st ps dvs.length n j ∧ ∀ (K : PySem.W.Frag) mg S, Rps K mg S (dvs.drop j) dp) : DD K x st ps df := by
  have F : FunD K x x (defArgs st) (defBody st) (defScope st) dvs [] f (PySem.W.fnOf x x (defArgs st) (defBody st) (defScope st) (.ref T) kV doc pm an cdv ct) :=
    ⟨⟨oc, od, .ref T, kV, doc, pm, an, cdv, ct, osl, rfl, l, c, .inr ⟨hne, T, o, its, n, rfl, lT, oT, rT⟩, .inl rfl⟩, k⟩
  refine ⟨f, _, dvs, a, F, ?_, fun mg dp hdp => ?_⟩
  · obtain ⟨ds, v, bi⟩ := F.binds1 (ps := ps) ps.length dvs.length hne (by omega) b0
    rw [List.drop_length] at v
    cases v
    exact bi
  · obtain ⟨n, j, h1, h2, h3⟩ := bs dp hdp
    obtain ⟨ds, v, bi⟩ := F.binds1 (ps := ps) n j hne h1 h2
    exact ⟨ds, _, bi, v, h3 K mg⟩
theorem DD.ok {x : Str} {st : Stmt} {ps : List Str} {df : List (List PV)} {h : Heap} (D : DD K x st ps df) (X : K.In h) (G : h.Ns mainGlobals mg) (N : List Str) (fuel : Nat) (S : FnScope N ps (defScope st)) (hl : ps.length ≤ N.length)
    (hp : Pg.defs (.fn x) = some ⟨ps.length, N.length, mkSs ((defBody st).map (trS N c (defScope st) fuel))⟩) (hd : c.dfl x = df) : ∃ f, mg x = some (.ref f) ∧ DOk Pg c K x x (.fn x) (c.dfl x) mg f := by
  obtain ⟨f, fd, dvs, h1, h2, h3, h4⟩ := D.ex
  exact ⟨f, PySem.W.mg_of X G h1, ⟨fd, st, N, ps, fuel, dvs, h2, S, h3, hl, by rw [hd]; exact h4 mg, hp⟩⟩
/-- a class that is made: its __init__ -/
structure DC (K : PySem.W.Frag) (C qual : Str) (st : Stmt) (ps : List Str) : Prop where
  ex : ∃ cA g fd, PySem.W.nsIn K mainGlobals C = some (some (.ref cA)) ∧ Mk K cA g ∧ Fun K "__init__" qual st g fd ∧ Binds K fd ps []
theorem dc_mk {C qual : Str} {st : Stmt} {ps : List Str} {cA g : Addr} {oc : Value} {od an : Option Addr} {osl : Array (Option Value)} {kV doc pm cdv ct : Value} (a : PySem.W.nsIn K mainGlobals C = some (some (.ref cA)))
    (m1 : PySem.W.makesIn K cA = true) (m2 : PySem.W.findIn K (.ref cA) "__init__" = some (some (.ref g))) (m3 : PySem.W.isFn K (.ref g) = true) (m4 : PySem.W.keepIn K (.ref cA) = true)
    (l : K.lookup g = some ⟨oc, od, .func (PySem.W.fnOf "__init__" qual (defArgs st) (defBody st) (defScope st) .none kV doc pm an cdv ct), osl⟩) (c : PySem.W.codeIn K cdv qual = true) (k : PySem.W.keepIn K (.ref g) = true)
    (b : ∀ (kV doc pm : Value) (an : Option Addr) (cdv ct : Value) (us : List Value), us.length = ps.length → bindArgs (PySem.W.fnOf "__init__" qual (defArgs st) (defBody st) (defScope st) .none kV doc pm an cdv ct) ⟨us, []⟩ = pure (ps.zip us)) : DC K C qual st ps :=
  ⟨cA, g, _, a, ⟨m1, m2, m3, m4⟩, fun_mk l c k, (fun_mk l c k).binds b⟩
theorem DC.ok {C qual : Str} {st : Stmt} {ps : List Str} {h : Heap} (D : DC K C qual st ps) (X : K.In h) (G : h.Ns mainGlobals mg) (N : List Str) (fuel : Nat) (S : FnScope N ps (defScope st)) (hl : ps.length ≤ N.length)
    (hp : Pg.defs (.mt C "__init__") = some ⟨ps.length, N.length, mkSs ((defBody st).map (trS N c (defScope st) fuel))⟩) : ∃ cA g q, mg C = some (.ref cA) ∧ Mk K cA g ∧ DOk Pg c K "__init__" q (.mt C "__init__") [] mg g := by
  obtain ⟨cA, g, fd, h1, h2, h3, h4⟩ := D.ex
  exact ⟨cA, g, qual, PySem.W.mg_of X G h1, h2, ⟨fd, st, N, ps, fuel, [], Fun.d h3, S, h4, hl, (fun _ hy => (by cases hy)), hp⟩⟩
/-- a method -/
structure DM (K : PySem.W.Frag) (C m qual : Str) (st : Stmt) (ps : List Str) : Prop where
  ex : ∃ cA g fd, PySem.W.nsIn K mainGlobals C = some (some (.ref cA)) ∧ Cls K cA ∧ Meth K cA m g ∧ Fun K m qual st g fd ∧ Binds K fd ps []
theorem dm_mk {C m qual : Str} {st : Stmt} {ps : List Str} {cA g : Addr} {oc : Value} {od an : Option Addr} {osl : Array (Option Value)} {kV doc pm cdv ct : Value} (a : PySem.W.nsIn K mainGlobals C = some (some (.ref cA)))
    (c1 : PySem.W.plainGet K cA Str.empty = true) (c2 : PySem.W.hasDictIn K cA = true) (c3 : PySem.W.plainOver K cA = true) (c4 : PySem.W.findIn K (.ref cA) "__setattr__" = some (some (.builtin "object.__setattr__")))
    (m2 : PySem.W.findIn K (.ref cA) m = some (some (.ref g))) (m3 : PySem.W.isFn K (.ref g) = true)
    (l : K.lookup g = some ⟨oc, od, .func (PySem.W.fnOf m qual (defArgs st) (defBody st) (defScope st) .none kV doc pm an cdv ct), osl⟩) (c : PySem.W.codeIn K cdv qual = true) (k : PySem.W.keepIn K (.ref g) = true)
    (b : ∀ (kV doc pm : Value) (an : Option Addr) (cdv ct : Value) (us : List Value), us.length = ps.length → bindArgs (PySem.W.fnOf m qual (defArgs st) (defBody st) (defScope st) .none kV doc pm an cdv ct) ⟨us, []⟩ = pure (ps.zip us)) : DM K C m qual st ps :=
  ⟨cA, g, _, a, ⟨c1, c2, c3, c4⟩, ⟨m2, m3, k⟩, fun_mk l c k, (fun_mk l c k).binds b⟩
theorem DM.ok {C m qual : Str} {st : Stmt} {ps : List Str} {h : Heap} (D : DM K C m qual st ps) (X : K.In h) (G : h.Ns mainGlobals mg) (N : List Str) (fuel : Nat) (S : FnScope N ps (defScope st)) (hl : ps.length ≤ N.length)
    (hp : Pg.defs (.mt C m) = some ⟨ps.length, N.length, mkSs ((defBody st).map (trS N c (defScope st) fuel))⟩) : ∃ cA g q, mg C = some (.ref cA) ∧ Cls K cA ∧ Meth K cA m g ∧ DOk Pg c K m q (.mt C m) [] mg g := by
  obtain ⟨cA, g, fd, h1, h2, h3, h4, h5⟩ := D.ex
  exact ⟨cA, g, qual, PySem.W.mg_of X G h1, h2, h3, ⟨fd, st, N, ps, fuel, [], Fun.d h4, S, h5, hl, (fun _ hy => (by cases hy)), hp⟩⟩
/-- a field's name -/
def FN (K : PySem.W.Frag) (C f : Str) : Prop := ∃ cA, PySem.W.nsIn K mainGlobals C = some (some (.ref cA)) ∧ Cls K cA ∧ NoAttr K cA f
theorem fn_mk {C f : Str} {cA : Addr} (a : PySem.W.nsIn K mainGlobals C = some (some (.ref cA)))
    (c1 : PySem.W.plainGet K cA Str.empty = true) (c2 : PySem.W.hasDictIn K cA = true) (c3 : PySem.W.plainOver K cA = true) (c4 : PySem.W.findIn K (.ref cA) "__setattr__" = some (some (.builtin "object.__setattr__"))) (n : PySem.W.findIn K (.ref cA) f = some none) : FN K C f := ⟨cA, a, ⟨c1, c2, c3, c4⟩, n⟩
theorem FN.ok {C f : Str} {h : Heap} (D : FN K C f) (X : K.In h) (G : h.Ns mainGlobals mg) : ∃ c, mg C = some (.ref c) ∧ Cls K c ∧ NoAttr K c f := by
  obtain ⟨cA, h1, h2, h3⟩ := D
  exact ⟨cA, PySem.W.mg_of X G h1, h2, h3⟩
/-- a constant of the module that is an int -/
def CI (K : PySem.W.Frag) (x : Str) (i : Int) : Prop := ∃ t, PySem.W.nsIn K mainGlobals x = some (some (.int i t))
theorem ci_mk {x : Str} {i : Int} {t : Tok} (a : PySem.W.nsIn K mainGlobals x = some (some (.int i t))) : CI K x i := ⟨t, a⟩
theorem CI.ok {x : Str} {i : Int} {h : Heap} (D : CI K x i) (X : K.In h) (G : h.Ns mainGlobals mg) : ∃ v u, mg x = some u ∧ RelV v u ∧ ∀ S, Rp K mg S v (.int i) := by
  obtain ⟨t, h1⟩ := D
  exact ⟨.int i, _, PySem.W.mg_of X G h1, ⟨t, rfl⟩, fun S => Rp.int i⟩
theorem all_nil {α : Type} {p : α → Prop} : ∀ y ∈ ([] : List α), p y := fun y h => by cases h
theorem all_cons {α : Type} {p : α → Prop} {x : α} {r : List α} (h : p x) (h2 : ∀ y ∈ r, p y) : ∀ y ∈ x :: r, p y := fun y hy => by
  rcases List.mem_cons.mp hy with rfl | hy
  · exact h
  · exact h2 y hy
theorem exm_by {a b : Addr} {t : Bool} (h1 : PySem.W.subIn K (.ref b) (.type "BaseException") = some true) (h2 : PySem.W.isClsIn K b = true) (h3 : PySem.W.typeIn K (.ref b) = some (.type "type")) (h4 : PySem.W.subIn K (.ref a) (.ref b) = some t) :
    PySem.W.exmOne K (.ref a) (.ref b) = some t := by
  have e1 : (PySem.W.subIn K (.ref b) (.type "BaseException") == some true) = true := by rw [h1] <;> rfl
  have e2 : ((PySem.W.clsIn K b).isSome && PySem.W.typeIn K (.ref b) == some (.type "type")) = true := by
    have h2' : (PySem.W.clsIn K b).isSome = true := h2
    rw [h2', h3] <;> rfl
  show (if (PySem.W.subIn K (.ref b) (.type "BaseException") == some true) = true then (if ((PySem.W.clsIn K b).isSome && PySem.W.typeIn K (.ref b) == some (.type "type")) = true then PySem.W.subIn K (.ref a) (.ref b) else none) else none) = some t
  rw [if_pos e1, if_pos e2]
  exact h4
/-- an own exception class at a -/
def ExA (K : PySem.W.Frag) (a : Addr) : Prop := ∃ B newId initId bmB, ExcBaseFacts B newId initId bmB ∧ PySem.W.excIn K a bmB newId = true ∧ PySem.W.keepIn K (.ref a) = true ∧ PySem.W.subIn K (.ref a) (.type "BaseException") = some true ∧ PySem.W.typeIn K (.ref a) = some (.type "type") ∧ PySem.W.isClsIn K a = true
def ExN (K : PySem.W.Frag) (C : Str) : Prop := ∃ a, PySem.W.nsIn K mainGlobals C = some (some (.ref a)) ∧ ExA K a
theorem exn_mk {C : Str} {a : Addr} {B newId initId : String} {bmB : List Value} (F : ExcBaseFacts B newId initId bmB) (g : PySem.W.nsIn K mainGlobals C = some (some (.ref a))) (q : PySem.W.excIn K a bmB newId = true) (k : PySem.W.keepIn K (.ref a) = true)
    (b : PySem.W.subIn K (.ref a) (.type "BaseException") = some true) (t : PySem.W.typeIn K (.ref a) = some (.type "type")) (i : PySem.W.isClsIn K a = true) : ExN K C :=
  ⟨a, g, B, newId, initId, bmB, F, q, k, b, t, i⟩
theorem ExN.f {C : Str} {h : Heap} (e : ExN K C) (X : K.In h) (G : h.Ns mainGlobals mg) : ExF K mg C := by
  obtain ⟨a, h1, B, newId, initId, bmB, F, q, k, b, t, i⟩ := e
  exact ⟨a, B, newId, initId, bmB, F, q, PySem.W.mg_of X G h1, k, b, t⟩
def SubN (K : PySem.W.Frag) (C C' : Str) (t : Bool) : Prop := ∃ a b, PySem.W.nsIn K mainGlobals C = some (some (.ref a)) ∧ PySem.W.nsIn K mainGlobals C' = some (some (.ref b)) ∧ PySem.W.subIn K (.ref a) (.ref b) = some t
theorem subn_mk {C C' : Str} {t : Bool} {a b : Addr} (h1 : PySem.W.nsIn K mainGlobals C = some (some (.ref a))) (h2 : PySem.W.nsIn K mainGlobals C' = some (some (.ref b))) (h3 : PySem.W.subIn K (.ref a) (.ref b) = some t) : SubN K C C' t := ⟨a, b, h1, h2, h3⟩
/-- a class that an except may name -/
def ClN (K : PySem.W.Frag) (C : Str) : Prop := ∃ b, PySem.W.nsIn K mainGlobals C = some (some (.ref b)) ∧ PySem.W.subIn K (.ref b) (.type "BaseException") = some true ∧ PySem.W.typeIn K (.ref b) = some (.type "type") ∧ PySem.W.isClsIn K b = true
theorem cln_mk {C : Str} {b : Addr} (g : PySem.W.nsIn K mainGlobals C = some (some (.ref b))) (h : PySem.W.subIn K (.ref b) (.type "BaseException") = some true) (t : PySem.W.typeIn K (.ref b) = some (.type "type")) (i : PySem.W.isClsIn K b = true) : ClN K C := ⟨b, g, h, t, i⟩
theorem SubN.ok {C C' : Str} {t : Bool} {h : Heap} (s : SubN K C C' t) (s0 : SubN K C C true) (e : ClN K C') (X : K.In h) (G : h.Ns mainGlobals mg) : ∃ x y, mg C = some (.ref x) ∧ mg C' = some (.ref y) ∧ PySem.W.exmOne K (.ref x) (.ref y) = some t ∧ PySem.W.kitOne K (.ref x) (.ref y) = some t := by
  obtain ⟨a, b, h1, h2, h3⟩ := s
  obtain ⟨a0, b0, g1, g2, g3⟩ := s0
  obtain ⟨b', h4, bb, tt, i⟩ := e
  have : b = b' := by rw [h2] at h4; cases h4; rfl
  subst this
  have : a0 = a := by rw [h1] at g1; cases g1; rfl
  subst this
  have : b0 = a0 := by rw [h1] at g2; cases g2; rfl
  subst this
  refine ⟨b0, b, PySem.W.mg_of X G h1, PySem.W.mg_of X G h2, exm_by bb i tt h3, ?_⟩
  unfold PySem.W.kitOne
  by_cases q : ((Value.ref b0 == Value.ref b) = true)
  · rw [if_pos q]
    have q : b0 = b := Value.ref.inj (beq_iff_eq.mp q)
    subst q
    rw [g3] at h3
    exact h3
  · rw [if_neg q]
    have e2 : ((PySem.W.clsIn K b).isSome && PySem.W.typeIn K (.ref b) == some (.type "type")) = true := by
      have h2' : (PySem.W.clsIn K b).isSome = true := i
      rw [h2', tt] <;> rfl
    show (if ((PySem.W.clsIn K b).isSome && PySem.W.typeIn K (.ref b) == some (.type "type")) = true then PySem.W.subIn K (.ref b0) (.ref b) else none) = some t
    rw [if_pos e2]
    exact h3
/-- what an exception's class says, for the suites -/
def XcN (K : PySem.W.Frag) (C : Str) : Prop := ∃ a, PySem.W.nsIn K mainGlobals C = some (some (.ref a)) ∧ XcA K a
theorem xcn_mk {C : Str} {a : Addr} (g : PySem.W.nsIn K mainGlobals C = some (some (.ref a))) (ga : PySem.W.findIn K (.ref a) "__getattribute__" = some (some (.builtin "BaseException.__getattribute__"))) (gg : PySem.W.findIn K (.ref a) "__getattr__" = some none)
    (ex : PySem.W.subIn K (.ref a) (.type "BaseException") = some true) (hd : PySem.W.hasDictIn K a = true) (nw : PySem.W.findIn K (.ref a) "word" = some none) (ha : PySem.W.findIn K (.ref a) "__class__" = some (some (.builtin "object.__class__")))
    (hn : PySem.W.specialIn K (.builtin "object.__class__") "__get__" = some (some (.builtin "getset_descriptor.__get__"))) (ht : PySem.W.takesIn K (.builtin "object.__class__") = some true) (hm : PySem.W.mroIn K a (.type "object") = some true) : XcN K C :=
  ⟨a, g, ⟨ga, gg, ex, hd⟩, nw, ⟨ga, gg, ex, hd, ha, hn, ht, hm⟩⟩
theorem XcN.ok {C : Str} {h : Heap} (e : XcN K C) (X : K.In h) (G : h.Ns mainGlobals mg) : ∃ z, mg C = some (.ref z) ∧ XcA K z := by
  obtain ⟨a, h1, h2⟩ := e
  exact ⟨a, PySem.W.mg_of X G h1, h2⟩
theorem ClN.ad {C : Str} {h : Heap} (e : ClN K C) (X : K.In h) (G : h.Ns mainGlobals mg) : ∃ z, mg C = some (.ref z) := by
  obtain ⟨b, h1, _⟩ := e
  exact ⟨b, PySem.W.mg_of X G h1⟩
/-- what the written part says of a class with a word -/
structure WdN (K : PySem.W.Frag) (C B : Str) (st : Stmt) (qual : Str) : Prop where
  ex : ∃ a fI fd CF mc, PySem.W.nsIn K mainGlobals C = some (some (.ref a)) ∧ PySem.W.nsIn K mainGlobals B = some (some (.ref CF)) ∧ OexC K a ∧ XfC K a ∧ PySem.W.findIn K (.ref a) "word" = some none ∧ PySem.W.findIn K (.ref a) "__init__" = some (some (.ref fI)) ∧ PySem.W.typeIn K (.ref fI) = some (.type "function") ∧
    Fun K "__init__" qual st fI fd ∧ Binds K fd ["self", "word"] [] ∧ PySem.W.specialIn K (.ref CF) "__getattribute__" = some (some (.builtin "type.__getattribute__")) ∧ PySem.W.readsIn K CF mc = true ∧ PySem.W.findCls K (.ref CF) mc "__init__" = some (.val (.builtin "ValueError.__init__"))
theorem wdn_mk {C B : Str} {st : Stmt} {qual : Str} {a fI CF : Addr} {mc : Value} {nm q : Str} {N : Addr} {bs bm : List Value} {sn : List Str} {sub : List Value} {ab : Bool} {col : Option Bool} {dd : Option Addr} {k0 k1 k2 k3 k5 : Option Value}
    {oc : Value} {od an : Option Addr} {osl : Array (Option Value)} {kV doc pm cdv ct : Value}
    (aC : PySem.W.nsIn K mainGlobals C = some (some (.ref a))) (aB : PySem.W.nsIn K mainGlobals B = some (some (.ref CF))) (xL : K.lookup a = some (excClassObj nm q a N bs bm true sn sub ab col dd k0 k1 k2 k3 k5 "ValueError.__new__")) (hbm : PySem.HandSPX.refsVE bm = true)
    (sa : PySem.W.findIn K (.ref a) "__setattr__" = some (some (.builtin "object.__setattr__"))) (eC : PySem.W.subIn K (.ref a) (.type "BaseException") = some true) (tC : PySem.W.typeIn K (.ref a) = some (.type "type")) (kC : PySem.W.keepIn K (.ref a) = true)
    (ga : PySem.W.findIn K (.ref a) "__getattribute__" = some (some (.builtin "BaseException.__getattribute__"))) (gg : PySem.W.findIn K (.ref a) "__getattr__" = some none) (hd : PySem.W.hasDictIn K a = true) (nw : PySem.W.findIn K (.ref a) "word" = some none)
    (iC : PySem.W.findIn K (.ref a) "__init__" = some (some (.ref fI))) (tI : PySem.W.typeIn K (.ref fI) = some (.type "function"))
    (l : K.lookup fI = some ⟨oc, od, .func (PySem.W.fnOf "__init__" qual (defArgs st) (defBody st) (defScope st) .none kV doc pm an cdv ct), osl⟩) (c : PySem.W.codeIn K cdv qual = true) (k : PySem.W.keepIn K (.ref fI) = true)
    (b : ∀ (kV doc pm : Value) (an : Option Addr) (cdv ct : Value) (us : List Value), us.length = 2 → bindArgs (PySem.W.fnOf "__init__" qual (defArgs st) (defBody st) (defScope st) .none kV doc pm an cdv ct) ⟨us, []⟩ = pure ((["self", "word"] : List Str).zip us))
    (g : PySem.W.specialIn K (.ref CF) "__getattribute__" = some (some (.builtin "type.__getattribute__"))) (hr : PySem.W.readsIn K CF mc = true) (hv : PySem.W.findCls K (.ref CF) mc "__init__" = some (.val (.builtin "ValueError.__init__"))) : WdN K C B st qual :=
  ⟨a, fI, _, CF, mc, aC, aB, ⟨⟨nm, q, N, bs, bm, sn, sub, ab, col, dd, k0, k1, k2, k3, k5, xL, hbm⟩, sa, eC, tC, kC⟩, ⟨ga, gg, eC, hd⟩, nw, iC, tI, fun_mk l c k, (fun_mk l c k).binds b, g, hr, hv⟩
theorem WdN.f {C B : Str} {st : Stmt} {qual : Str} {h : Heap} (D : WdN K C B st qual) (X : K.In h) (G : h.Ns mainGlobals mg) (S : FnScope ["self", "word"] ["self", "word"] (defScope st)) (hgl : (defScope st).names.lookup B = some .globalImplicit) (hself : (defScope st).names.lookup ("self" : Str) = some .local) (hword : (defScope st).names.lookup ("word" : Str) = some .local) (hdb : (B == ("__debug__" : Str)) = false)
    {p1 p2 p3 p4 p5 p6 q1 q2 q3 q4 : Pos} (hb : defBody st = [.Expr (.Call (.Attribute (.Name B p1) "__init__" p2) [.Name "self" p3, .Name "word" p4] [] p5) p6, .Assign [.Attribute (.Name "self" q1) "word" q2] (.Name "word" q3) q4])
    (hc : ∀ env : PySem.Env, ∃ pl : PySem.Sem Bool, eval (.Call (.Attribute (.Name B p1) "__init__" p2) [.Name "self" p3, .Name "word" p4] [] p5) env = (do
      let ov ← eval (.Name B p1) env
      standAt p2.atName
      let (f, first) ← holding [ov] (getMethod ov "__init__" pl)
      callWith p5 f first (backTo p5 (starEach [.Name "self" p3, .Name "word" p4] env)) (backToKw p5 (keywordEach [] env)))) : ∀ P w base, WdF P w K mg base C := by
  intro P w base
  obtain ⟨a, fI, fd, CF, mc, aC, aB, T, XT, nw, iC, tI, F, bb, g, hr, hv⟩ := D.ex
  exact ⟨a, fI, fd, PySem.W.mg_of X G aC, T, iC, tI, bb, fun k => init_ok F S T nw (PySem.W.mg_of X G aB) hgl hself hword hdb g hr hv hb hc, XT, nw⟩
/-- what is wanted of the law's def -/
def spLaw (K : PySem.W.Frag) : Sp := fun vs H Q E => ∃ (a : Addr) (ns : List Int), vs = [V.ref a] ∧ ns.length ≤ 63 ∧ SqL K H a (ns.map V.int) ∧ ∀ H', Q (.bl true) H'
theorem law_fn (T : Top Pg c K mg) (k : Nat) {st : Stmt} {N : List Str} {fuel : Nat} {h : Heap} (D : DF K "law" st ["script"]) (X : K.In h) (G : h.Ns mainGlobals mg) {fa : Addr} (hfa : mg "law" = some (.ref fa))
    (S : FnScope N ["script"] (defScope st)) (hl : 1 ≤ N.length) (hp : Pg.defs (.fn "law") = some ⟨1, N.length, mkSs ((defBody st).map (trS N c (defScope st) fuel))⟩)
    (hm : ∀ ns : List Int, ns.length ≤ 63 → evF Pg (k + 1) (.fn "law") [.val (.scr ns)] = .ok (.val (.bl true)) none) :
    ∃ fd : FuncData, (∀ (s : Shared) (u : Value), BindsTo s fd ⟨[u], []⟩ [("script", u)]) ∧ ∀ base : Heap, K.In base → base.Ns mainGlobals mg → FnOk P w K mg base (L2.CX P w) (2 * k + 4) fa fd ["script"] (spLaw K) := by
  obtain ⟨f, fd, h1, h2, h3, h4⟩ := D.ex
  have e := hfa.symm.trans (PySem.W.mg_of X G h1)
  cases e
  refine ⟨fd, fun s u => h4 s [u] rfl, fun base _ _ => ?_⟩
  obtain ⟨a, _⟩ := fn_okk (P := P) (w := w) (base := base) T (all_at T k) (Fun.d h2) S hl hp
  refine a.imp fun vs H Q E q => ?_
  obtain ⟨a, ns, rfl, hn, hS, q⟩ := q
  refine ⟨rfl, [.val (.scr ns)], H, [], Same.refl _, ⟨[], rfl, rfl, Rps.cons ?_ Rps.nil⟩, fun b hb => (by cases hb), ?_⟩
  · unfold Rp
    exact ⟨a, rfl, hS⟩
  · rw [hm ns hn]
    intro v H' S' Bo Br ce rt ot
    have : v = .bl true := rp_bl rt.1
    rw [this]
    exact q H'
theorem law_walk {l : PySem.W.OpenLaw} {q : Program} {loose : List Str} {XP : (Str → Option Value) → Heap → Prop} {YP : World → Heap → Prop} {d : DefRec} {K : Params → PySem.W.Frag} {k : Nat} (hn : l.most = some 63) (hdf : d.params.defaults = []) (hr : Room k callerA)
    (hY : ∀ (w : World) (h : Heap), YP w h → (K w.params).In h)
    (F : ∀ (w : World) (mg : Str → Option Value) (fa : Addr) (h : Heap), (K w.params).In h → h.Ns mainGlobals mg → mg d.name = some (.ref fa) →
      ∃ fd : FuncData, (∀ (s : Shared) (u : Value), BindsTo s fd ⟨[u], []⟩ [("script", u)]) ∧ ∀ base : Heap, (K w.params).In base → base.Ns mainGlobals mg → FnOk l.prog w (K w.params) mg base (L2.CX l.prog w) k fa fd ["script"] (spLaw (K w.params))) :
    PySem.W.WalkO q loose XP YP l.row.toRowW d [] (fun f vs => PySem.call f vs) :=
  L2.walk_of (n := 63) (k := k) (x := "script") (CX := fun w => L2.CX l.prog w) (sp := fun w => spLaw (K w.params)) hn (by decide) hdf hr hY F (fun _ _ a ns hl _ hS => ⟨a, ns, rfl, hl, hS, fun _ => rfl⟩) fun w H s e s' z => by
    obtain ⟨_, _, _, _, _, _, _, _, _, _, _, _, z⟩ := z
    exact z.elim
end
end PL
set_option Elab.async false
set_option linter.all false
set_option maxRecDepth 100000
set_option maxHeartbeats 4000000
namespace PL
open PySem PySem.Spec PyProof.Rows L2
/-! ### running the tree: equations (v2) -/
theorem bind_ok {α β : Type} (a : α) (f : α → Res β) : (Res.ok a).bind f = f a := rfl
/-- what follows is left alone until its turn -/
structure Dum {α β : Type} (f : α → Res β) : Type where
def dum {α β : Type} (f : α → Res β) : Dum f := ⟨⟩
def bndD {α β : Type} (x : Res α) (f : α → Res β) (_ : Dum f) : Res β := x.bind f
theorem toB {α β : Type} (x : Res α) (f : α → Res β) : x.bind f = bndD x f (dum f) := rfl
theorem bndD_ok {α β : Type} (a : α) (f : α → Res β) (d : Dum f) : bndD (Res.ok a) f d = f a := rfl
theorem bndD_exc {α β : Type} (C fs e) (f : α → Res β) (d : Dum f) : bndD (Res.exc C fs e : Res α) f d = .exc C fs e := rfl
theorem bndD_stuck {α β : Type} (f : α → Res β) (d : Dum f) : bndD (Res.stuck : Res α) f d = .stuck := rfl
theorem bind_exc {α β : Type} (C fs e) (f : α → Res β) : (Res.exc C fs e : Res α).bind f = .exc C fs e := rfl
theorem optR_some {α : Type} (a : α) : optR (some a) = .ok a := rfl
theorem get_zero (a : Option Cell) (l : Env) : get (a :: l) 0 = a := rfl
theorem get_succ (a : Option Cell) (l : Env) (n : Nat) : get (a :: l) (n + 1) = get l n := by unfold get; rw [List.getElem?_cons_succ]
section
variable (F : Sem) (env : Env)
theorem v_var (i) : (ev F (.var i)).e env = match get env i with
    | some (.fz p) => .ok (.val p, env)
    | some _ => .ok (.loc i, env)
    | none => .stuck := rfl
theorem v_con (p) : (ev F (.con p)).e env = .ok (.val p, env) := rfl
theorem v_gco (x) : (ev F (.gco x)).e env = match F.con x with
    | some p => .ok (.val p, env)
    | none => .stuck := rfl
theorem v_bop (o a b) : (ev F (.bop o a b)).e env = ((ev F a).e env).bind fun r => ((ev F b).e r.2).bind fun q =>
    (optR (rd q.2 r.1)).bind fun x => (optR (rd q.2 q.1)).bind fun y => (optR (bopV o x y)).bind fun v => .ok (mkV v, unb r.1 (unb q.1 q.2)) := rfl
theorem v_neg (a) : (ev F (.neg a)).e env = ((ev F a).e env).bind fun r => match r.1 with
    | .val (.int i) => .ok (.val (.int (-i)), r.2)
    | _ => .stuck := rfl
theorem v_not (a) : (ev F (.not a)).e env = ((ev F a).e env).bind fun r => match r.1 with
    | .val (.bl b) => .ok (.val (.bl (!b)), r.2)
    | _ => .stuck := rfl
theorem t_not (a) : (ev F (.not a)).t env = ((ev F a).t env).bind fun r => .ok (!r.1, r.2) := rfl
theorem v_and (a b) : (ev F (.and a b)).e env = ((ev F a).e env).bind fun r => match r.1 with
    | .val (.bl true) => (ev F b).e r.2
    | .val (.bl false) => .ok (.val (.bl false), r.2)
    | _ => .stuck := rfl
theorem t_and (a b) : (ev F (.and a b)).t env = ((ev F a).t env).bind fun r => match r.1 with
    | true => (ev F b).t r.2
    | false => .ok (false, r.2) := rfl
theorem v_or (a b) : (ev F (.or a b)).e env = ((ev F a).e env).bind fun r => match r.1 with
    | .val (.bl true) => .ok (.val (.bl true), r.2)
    | .val (.bl false) => (ev F b).e r.2
    | _ => .stuck := rfl
theorem t_or (a b) : (ev F (.or a b)).t env = ((ev F a).t env).bind fun r => match r.1 with
    | true => .ok (true, r.2)
    | false => (ev F b).t r.2 := rfl
theorem v_cmp (o a b) : (ev F (.cmp o a b)).e env = ((ev F a).e env).bind fun r => ((ev F b).e r.2).bind fun q =>
    (optR (rdH q.2 r.1)).bind fun x => (optR (rdH q.2 q.1)).bind fun y => (optR (copV o x y)).bind fun v => .ok (.val (.bl v), unb r.1 (unb q.1 q.2)) := rfl
theorem t_cmp (o a b) : (ev F (.cmp o a b)).t env = ((ev F a).e env).bind fun r => ((ev F b).e r.2).bind fun q =>
    (optR (rdH q.2 r.1)).bind fun x => (optR (rdH q.2 q.1)).bind fun y => (optR (copV o x y)).bind fun v => .ok (v, unb r.1 (unb q.1 q.2)) := by
  show truV (ev F (.cmp o a b)).e env = _
  unfold truV
  rw [v_cmp, Res.assoc]
  congr 1; funext r
  rw [Res.assoc]
  congr 1; funext q
  rw [Res.assoc]
  congr 1; funext x
  rw [Res.assoc]
  congr 1; funext y
  rw [Res.assoc]
  rfl
theorem v_chn (o o' a b c) : (ev F (.chn o o' a b c)).e env = ((ev F a).e env).bind fun r => ((ev F b).e r.2).bind fun q =>
    (optR (rdH q.2 r.1)).bind fun x => (optR (rdH q.2 q.1)).bind fun y => (optR (copV o x y)).bind fun v => match v with
    | false => .ok (.val (.bl false), unb r.1 (unb q.1 q.2))
    | true => ((ev F c).e q.2).bind fun w => (optR (rdH w.2 q.1)).bind fun y => (optR (rdH w.2 w.1)).bind fun z =>
      (optR (copV o' y z)).bind fun v => .ok (.val (.bl v), unb r.1 (unb q.1 (unb w.1 w.2))) := rfl
theorem t_chn (o o' a b c) : (ev F (.chn o o' a b c)).t env = truV (ev F (.chn o o' a b c)).e env := rfl
theorem v_ite (t a b) : (ev F (.ite t a b)).e env = ((ev F t).t env).bind fun r => match r.1 with
    | true => (ev F a).e r.2
    | false => (ev F b).e r.2 := rfl
theorem t_ite (t a b) : (ev F (.ite t a b)).t env = ((ev F t).t env).bind fun r => match r.1 with
    | true => (ev F a).t r.2
    | false => (ev F b).t r.2 := rfl
theorem i_ite (t a b) : (ev F (.ite t a b)).i env = itsV (ev F (.ite t a b)).e env := rfl
theorem v_tup (es) : (ev F (.tup es)).e env = (evTs F es env).bind fun r => .ok (.val (.tup r.1), r.2) := rfl
theorem i_tup (es) : (ev F (.tup es)).i env = itsV (ev F (.tup es)).e env := rfl
theorem v_lst (es) : (ev F (.lst es)).e env = (evTs F es env).bind fun r => .ok (.new (.lst r.1), r.2) := rfl
theorem i_lst (es) : (ev F (.lst es)).i env = itsV (ev F (.lst es)).e env := rfl
theorem v_call (f es) : (ev F (.call f es)).e env = (evTs F es env).bind fun r => endCall none r.2 (F.fn (.fn f) (vals r.1)) := rfl
theorem t_call (f es) : (ev F (.call f es)).t env = truV (ev F (.call f es)).e env := rfl
theorem i_call (f es) : (ev F (.call f es)).i env = itsV (ev F (.call f es)).e env := rfl
theorem v_calm (f i es) : (ev F (.calm f i es)).e env = match get env i with
    | none => .stuck
    | some (.fz _) => .stuck
    | some _ => (evTs F es env).bind fun r => (lend r.2 i).bind fun c => endCall (some i) r.2 (F.fn (.fn f) (.own c :: vals r.1)) := rfl
theorem t_calm (f i es) : (ev F (.calm f i es)).t env = truV (ev F (.calm f i es)).e env := rfl
theorem v_blt (f es) : (ev F (.blt f es)).e env = (evHs F es env).bind fun r => (optR (rdsB (if isK f = true then rd else rdH) r.2 r.1)).bind fun ps => (optR (if isK f = true then bltK f ps else bltH f ps)).bind fun v => .ok (mkV v, unbs r.1 r.2) := rfl
theorem t_blt (f es) : (ev F (.blt f es)).t env = truV (ev F (.blt f es)).e env := rfl
theorem t_var (i) : (ev F (.var i)).t env = truV (ev F (.var i)).e env := rfl
theorem t_con (p) : (ev F (.con p)).t env = truV (ev F (.con p)).e env := rfl
theorem i_blt (f es) : (ev F (.blt f es)).i env = if f = ("range" : Str) then rngV (evHs F es) env else if f = ("zip" : Str) then zipV (evTs F es) env else if f = ("enumerate" : Str) then enuV (evTs F es) env else itsV (ev F (.blt f es)).e env := rfl
theorem i_range (es) : (ev F (.blt "range" es)).i env = rngV (evHs F es) env := by rw [i_blt, if_pos rfl]
theorem i_zip (es) : (ev F (.blt "zip" es)).i env = zipV (evTs F es) env := by rw [i_blt, if_neg (by decide), if_pos rfl]
theorem i_enum (es) : (ev F (.blt "enumerate" es)).i env = enuV (evTs F es) env := by rw [i_blt, if_neg (by decide), if_neg (by decide), if_pos rfl]
theorem i_var (i) : (ev F (.var i)).i env = itsV (ev F (.var i)).e env := rfl
theorem v_mth (m o es) : (ev F (.mth m o es)).e env = ((ev F o).e env).bind fun r => if (match vwC r.2 r.1 with | some c => kindC c == ("list" : Str) | none => false) = true then mthV m (evTs F es) r else .stuck := rfl
theorem v_ix (o i) : (ev F (.ix o i)).e env = ((ev F o).e env).bind fun r => ((ev F i).e r.2).bind fun q => (optR (rdH q.2 q.1)).bind fun y => ixV r.1 y (unb q.1 q.2) := rfl
theorem t_ix (o i) : (ev F (.ix o i)).t env = truV (ev F (.ix o i)).e env := rfl
theorem i_ix (o i) : (ev F (.ix o i)).i env = itsV (ev F (.ix o i)).e env := rfl
theorem v_sl (o lo hi) : (ev F (.sl o lo hi)).e env = ((ev F o).e env).bind fun r => (parO (isNop lo) (ev F lo).e r.2).bind fun l => (parO (isNop hi) (ev F hi).e l.2).bind fun h =>
    (optR (rd h.2 r.1)).bind fun x => (optR (slP x l.1 h.1)).bind fun v => .ok (mkV v, unb r.1 h.2) := rfl
theorem i_sl (o lo hi) : (ev F (.sl o lo hi)).i env = itsV (ev F (.sl o lo hi)).e env := rfl
theorem v_rev (o) : (ev F (.rev o)).e env = ((ev F o).e env).bind fun r => (optR (rd r.2 r.1)).bind fun x => match x with
    | .lst xs => .ok (.new (.lst xs.reverse), unb r.1 r.2)
    | _ => .stuck := rfl
theorem v_frz (e) : (ev F (.frz e)).e env = ((ev F e).e env).bind fun r => (optR (take r.1 r.2)).bind fun r => .ok (.val r.1, r.2) := rfl
theorem i_frz (e) : (ev F (.frz e)).i env = itsV (ev F (.frz e)).e env := rfl
theorem v_lck (e) : (ev F (.lck e)).e env = ((ev F e).e env).bind fun r => match r.1 with
    | .new (.dct false kvs) => .ok (.val (.dcl kvs), r.2)
    | _ => .stuck := rfl
theorem v_sset (f e) : (ev F (.sset f e)).e env = ((ev F e).e env).bind fun r => (optR (rd r.2 r.1)).bind fun x => (optR (ssetV f x)).bind fun v => .ok (mkV v, unb r.1 r.2) := rfl
theorem v_lc (own t it c e) : (ev F (.lc own t it c e)).e env = ((ev F it).i env).bind fun r => match plainAt r.2 own with
    | false => .stuck
    | true => (lcGo own (evTg F t) (ev F c).t (fun e1 => ((ev F e).e e1).bind fun q => optR (take q.1 q.2)) (fun e1 => wipeE e1 own) r.1.1 [] (wipeE r.2 own)).noexc.bind fun q =>
      .ok (.new (.lst q.1), unb r.1.2 (restore r.2 q.2 own)) := rfl
theorem i_lc (own t it c e) : (ev F (.lc own t it c e)).i env = itsV (ev F (.lc own t it c e)).e env := rfl
/-- an entry of a dict's comprehension -/
def entE (F : Sem) (b : Bool) (k v : E) : Env → Res ((List L2.Key × PV) × Env) := fun e1 => ((ev F k).e e1).bind fun q => (optR (take q.1 q.2)).bind fun q => (optR (keyP b q.1)).bind fun y => ((ev F v).e q.2).bind fun w => (optR (take w.1 w.2)).bind fun w => .ok ((y, w.1), w.2)
theorem v_dc (b own t it c k v) : (ev F (.dc b own t it c k v)).e env = ((ev F it).i env).bind fun r => match plainAt r.2 own with
    | false => .stuck
    | true => (dcGo own (evTg F t) (ev F c).t (entE F b k v) (fun e1 => wipeE e1 own) r.1.1 [] (wipeE r.2 own)).noexc.bind fun q =>
      .ok (.new (.dct b q.1), unb r.1.2 (restore r.2 q.2 own)) := rfl
theorem v_dc2 (b own own2 t it c t2 it2 c2 k v) : (ev F (.dc2 b own own2 t it c t2 it2 c2 k v)).e env = ((ev F it).i env).bind fun r => match plainAt r.2 own with
    | false => .stuck
    | true => (dc2Go own (evTg F t) (ev F c).t (fun e1 acc => ((ev F it2).i e1).bind fun s => match s.1.2 with
        | .val _ => dcGo own2 (evTg F t2) (ev F c2).t (entE F b k v) (fun e2 => wipeE e2 own2) s.1.1 acc (wipeE s.2 own2)
        | _ => .stuck)
        (fun e1 => wipeE e1 own) r.1.1 [] (wipeE r.2 own)).noexc.bind fun q =>
      if q.1.length < sizeLine then .ok (.new (.dct b q.1), unb r.1.2 (restore r.2 q.2 own)) else .stuck := rfl
theorem v_dsp (k v) : (ev F (.dsp false k v)).e env = (entE F false k v env).bind fun w => .ok (.new (.dct false (dPut [] w.1.1 w.1.2)), w.2) := by
  unfold entE
  show (((ev F k).e env).bind fun q => (optR (take q.1 q.2)).bind fun q => (optR (keyP false q.1)).bind fun y => ((ev F v).e q.2).bind fun w => (optR (take w.1 w.2)).bind fun w => (Res.ok (RV.new (.dct false (dPut [] y w.1)), w.2) : Res (RV × Env))) = _
  rw [Res.assoc]; congr 1; funext q
  rw [Res.assoc]; congr 1; funext q2
  rw [Res.assoc]; congr 1; funext y
  rw [Res.assoc]; congr 1; funext w
  rw [Res.assoc]; rfl
theorem v_lc2 (own own2 t it c t2 it2 c2 e) : (ev F (.lc2 own own2 t it c t2 it2 c2 e)).e env = ((ev F it).i env).bind fun r => match plainAt r.2 own with
    | false => .stuck
    | true => (lc2Go own (evTg F t) (ev F c).t (fun e1 acc => ((ev F it2).i e1).bind fun s => match s.1.2 with
        | .val _ => lcGo own2 (evTg F t2) (ev F c2).t (fun e2 => ((ev F e).e e2).bind fun q => optR (take q.1 q.2)) (fun e2 => wipeE e2 own2) s.1.1 acc (wipeE s.2 own2)
        | _ => .stuck)
        (fun e1 => wipeE e1 own) r.1.1 [] (wipeE r.2 own)).noexc.bind fun q =>
      if q.1.length ≤ sizeLine then .ok (.new (.lst q.1), unb r.1.2 (restore r.2 q.2 own)) else .stuck := rfl
theorem ts_nil : evTs F .nil env = .ok ([], env) := rfl
theorem ts_cons (e es) : evTs F (.cons e es) env = ((ev F e).e env).bind fun r => (optR (take r.1 r.2)).bind fun r => (evTs F es r.2).bind fun q => .ok (r.1 :: q.1, q.2) := rfl
theorem hs_nil : evHs F .nil env = .ok ([], env) := rfl
theorem hs_cons (e es) : evHs F (.cons e es) env = ((ev F e).e env).bind fun r => (evHs F es r.2).bind fun q => .ok (r.1 :: q.1, q.2) := rfl
theorem g_nm (i p) : evTg F (.nm i) p env = if i < env.length then .ok (env.set i (some (.fz p))) else .stuck := rfl
theorem g_tup (ts p) : evTg F (.tup ts) p env = match p with
    | .tup xs => evTgs F ts xs env
    | _ => .stuck := rfl
theorem g_ix (o i p) : evTg F (.ix o i) p env = ((ev F o).e env).bind fun r => ((ev F i).e r.2).bind fun q => (optR (rdH q.2 q.1)).bind fun y => match vwC (unb q.1 q.2) r.1 with
    | some c => (optR (putC c y p)).bind fun d => wrt r.1 d (unb q.1 q.2)
    | none => .stuck := rfl
theorem gs_nil (xs) : evTgs F .nil xs env = match xs with
    | [] => .ok env
    | _ => .stuck := rfl
theorem gs_cons (t ts xs) : evTgs F (.cons t ts) xs env = match xs with
    | x :: xs => (evTg F t x env).bind fun e1 => evTgs F ts xs e1
    | [] => .stuck := rfl
theorem s_expr (e) : evS F (.expr e) env = ((ev F e).e env).bind fun r => .ok (.nx, unb r.1 r.2) := by unfold evS; rfl
theorem s_set (i e) : evS F (.asg (.nm i) e) env = ((ev F e).e env).bind fun r => (optR (settle r.1 r.2)).bind fun r => (optR (put i r.1 r.2)).bind fun e1 => .ok (.nx, e1) := by unfold evS; rfl
theorem s_asgT (ts e) : evS F (.asg (.tup ts) e) env = ((ev F e).e env).bind fun r => (optR (take r.1 r.2)).bind fun r => (evTg F (.tup ts) r.1 r.2).bind fun e1 => .ok (.nx, e1) := by unfold evS; rfl
theorem s_asgX (o i e) : evS F (.asg (.ix o i) e) env = ((ev F e).e env).bind fun r => (optR (take r.1 r.2)).bind fun r => (evTg F (.ix o i) r.1 r.2).bind fun e1 => .ok (.nx, e1) := by unfold evS; rfl
theorem s_par2 (i j a b) : evS F (.par2 i j a b) env = ((ev F a).e env).bind fun r => ((ev F b).e r.2).bind fun q => (optR (settle r.1 q.2)).bind fun r => (optR (settle q.1 r.2)).bind fun q =>
    (optR (put i r.1 q.2)).bind fun e1 => (optR (put j q.1 e1)).bind fun e2 => .ok (.nx, e2) := by unfold evS; rfl
theorem s_par3 (i j k a b c) : evS F (.par3 i j k a b c) env = ((ev F a).e env).bind fun r => ((ev F b).e r.2).bind fun q => ((ev F c).e q.2).bind fun w => (optR (settle r.1 w.2)).bind fun r => (optR (settle q.1 r.2)).bind fun q => (optR (settle w.1 q.2)).bind fun w =>
    (optR (put i r.1 w.2)).bind fun e1 => (optR (put j q.1 e1)).bind fun e2 => (optR (put k w.1 e2)).bind fun e3 => .ok (.nx, e3) := by unfold evS; rfl
theorem s_aug (i o e) : evS F (.aug i o e) env = match get env i with
    | some (.fz p) => ((ev F e).e env).bind fun r => match r.1 with
      | .val q => (optR (iopV o p q)).bind fun v => (optR (put i (.val v) r.2)).bind fun e1 => .ok (.nx, e1)
      | _ => .stuck
    | _ => .stuck := by unfold evS; rfl
theorem s_ite (t a b) : evS F (.ite t a b) env = ((ev F t).t env).bind fun r => match r.1 with
    | true => evSs F a r.2
    | false => evSs F b r.2 := by unfold evS; rfl
theorem s_for (t it b) : evS F (.forr t it b) env = ((ev F it).i env).bind fun r => match r.1.2 with
    | .val _ => forGo (evTg F t) (evSs F b) r.1.1 r.2
    | _ => .stuck := by unfold evS; rfl
theorem s_whl (t b) : evS F (.whl t b) env = whF (ev F t).t (evSs F b) env := by unfold evS; rfl
theorem s_ret (e) : evS F (.ret e) env = ((ev F e).e env).bind fun r => (giveBack r.1 r.2).bind fun q => .ok (.rt q.1, q.2) := by unfold evS; rfl
theorem s_retn : evS F .retn env = .ok (.rt (.val .non), env) := by unfold evS; rfl
theorem s_rai (C) : evS F (.rai C) env = .exc C [] env := by unfold evS; rfl
theorem s_raw (C es) : evS F (.raw C es) env = (evTs F es env).bind fun r => match r.1 with
    | [p] => .exc C [("word", p)] r.2
    | _ => .stuck := by unfold evS; rfl
theorem s_tri (b C n h) : evS F (.tri b C n h) env = tryEnd F C n h (evSs F b env) := by unfold evS; rfl
theorem s_brk : evS F .brk env = .ok (.bk, env) := by unfold evS; rfl
theorem s_cnt : evS F .cnt env = .ok (.ct, env) := by unfold evS; rfl
theorem s_pass : evS F .pass env = .ok (.nx, env) := by unfold evS; rfl
theorem ss_nil : evSs F .nil env = .ok (.nx, env) := by unfold evSs; rfl
theorem ss_cons (s ss) : evSs F (.cons s ss) env = (evS F s env).bind fun r => match r.1 with
    | .nx => evSs F ss r.2
    | f => .ok (f, r.2) := by rw [evSs]; all_goals rfl
end
theorem rd_val (env p) : rd env (.val p) = some p := rfl
theorem rd_newL (env xs) : rd env (.new (.lst xs)) = some (.lst xs) := rfl
theorem rd_newD (env b xs) : rd env (.new (.dct b xs)) = some (.dct b xs) := rfl
theorem rd_brwL (env j xs) : rd env (.brw j [] (.lst xs)) = some (.lst xs) := rfl
theorem rd_loc (env j) : rd env (.loc j) = match get env j with
    | some c => if flat c = true then some c.pv else none
    | none => none := rfl
theorem rdH_val (env p) : rdH env (.val p) = some p := rfl
theorem rdH_new (env c) : rdH env (.new c) = some c.pv := rfl
theorem rdH_brw (env j p c) : rdH env (.brw j p c) = match getC c p with
    | some d => some d.pv
    | none => none := rfl
theorem rdH_loc (env j) : rdH env (.loc j) = match get env j with
    | some c => some c.pv
    | none => none := rfl
theorem unb_val (p env) : unb (.val p) env = env := rfl
theorem unb_new (c env) : unb (.new c) env = env := rfl
theorem unb_loc (j env) : unb (.loc j) env = env := rfl
theorem unb_brw (j p c env) : unb (.brw j p c) env = env.set j (some c) := rfl
theorem unbs_nil (env) : unbs [] env = env := rfl
theorem unbs_cons (r rs env) : unbs (r :: rs) env = unb r (unbs rs env) := rfl
theorem getC_nil (c) : getC c [] = some c := by cases c <;> rfl
theorem vw_val (env p) : vwC env (.val p) = some (.fz p) := rfl
theorem vw_new (env c) : vwC env (.new c) = some c := rfl
theorem vw_loc (env j) : vwC env (.loc j) = get env j := rfl
theorem vw_brw (env j p c) : vwC env (.brw j p c) = getC c p := rfl
theorem fl_fz (p) : flat (.fz p) = true := rfl
theorem fl_lst (p) : flat (.lst p) = true := rfl
theorem fl_dct (b p) : flat (.dct b p) = true := rfl
theorem take_val (env p) : take (.val p) env = some (p, env) := rfl
theorem take_new (env c) : take (.new c) env = some (c.pv, env) := rfl
theorem take_loc (env j) : take (.loc j) env = match get env j with
    | some c => some (c.pv, env.set j (some (.fz c.pv)))
    | none => none := rfl
theorem settle_val (env p) : settle (.val p) env = some (.val p, env) := rfl
theorem settle_new (env c) : settle (.new c) env = some (.new c, env) := rfl
theorem settle_loc (env j) : settle (.loc j) env = match get env j with
    | some c => some (.val c.pv, env.set j (some (.fz c.pv)))
    | none => none := by
  show (take (.loc j) env).map _ = _
  rw [take_loc]
  cases get env j <;> rfl
theorem give_val (env p) : giveBack (.val p) env = .ok (.val p, env) := rfl
theorem give_new (env c) : giveBack (.new c) env = .ok (.new c, env) := rfl
theorem give_loc (env j) : giveBack (.loc j) env = match get env j with
    | some (.fz p) => .ok (.val p, env)
    | some c => .ok (.new c, env.set j none)
    | none => .stuck := rfl
theorem pv_fz (p) : (Cell.fz p).pv = p := by unfold Cell.pv; rfl
theorem pv_lst (xs) : (Cell.lst xs).pv = .lst xs := by unfold Cell.pv; rfl
theorem pv_dct (b xs) : (Cell.dct b xs).pv = .dct b xs := by unfold Cell.pv; rfl
theorem mk_sc (p) : mkV (.sc p) = .val p := rfl
theorem mk_tup (p) : mkV (.tup p) = .val (.tup p) := rfl
theorem mk_lst (p) : mkV (.lst p) = .new (.lst p) := rfl
theorem mk_srt (p) : mkV (.srt p) = .new (.lst p) := rfl
theorem rds_nil (g env) : rdsB g env [] = some [] := rfl
theorem rds_cons (g env r rs) : rdsB g env (r :: rs) = match g env r, rdsB g env rs with
    | some p, some ps => some (p :: ps)
    | _, _ => none := rfl
theorem vals_nil : vals [] = [] := rfl
theorem vals_cons (p ps) : vals (p :: ps) = .val p :: vals ps := rfl
theorem endC_none (env r) : endCall none env (.ok r none) = .ok (r, env) := rfl
theorem endC_some (env r c i) : endCall (some i) env (.ok r (some c)) = .ok (r, env.set i (some c)) := rfl
theorem endC_exc (env C fs) : endCall none env (.exc C fs) = .exc C fs env := rfl
theorem ixV_val (p y env) : ixV (.val p) y env = match ixP p y with
    | some v => .ok (.val v, env)
    | none => .stuck := by
  have e : idxC (.fz p) y = (ixP p y).map .inl := rfl
  unfold ixV
  dsimp only [vwC]
  rw [e]
  cases ixP p y <;> rfl
theorem ixV_new (c y env) : ixV (.new c) y env = match idxC c y with
    | some (.inl v) => .ok (.val v, env)
    | _ => .stuck := by
  unfold ixV
  dsimp only [vwC]
  cases idxC c y with
  | none => rfl
  | some z => cases z <;> rfl
theorem ixV_loc (j y env) : ixV (.loc j) y env = match get env j with
    | none => .stuck
    | some c => match idxC c y with
      | none => .stuck
      | some (.inl v) => .ok (.val v, env)
      | some (.inr n) => .ok (.brw j [.ix n] c, env.set j none) := rfl
theorem idx_fz (p y) : idxC (.fz p) y = (ixP p y).map .inl := rfl
theorem idx_lst (p y) : idxC (.lst p) y = (ixP (.lst p) y).map .inl := rfl
theorem idx_dct (b p y) : idxC (.dct b p) y = (ixP (.dct b p) y).map .inl := rfl
theorem wrt_loc (j d env) : wrt (.loc j) d env = .ok (env.set j (some d)) := rfl
theorem put_lst (xs i p) : putC (.lst xs) (.int i) p = (ixN xs.length i).map fun n => .lst (xs.set n p) := rfl
theorem kn_lst (xs) : kindC (.lst xs) = "list" := rfl
theorem kn_eq : (("list" : Str) == ("list" : Str)) = true := by decide
theorem mth_app (xs : List PV) (p : PV) (h : xs.length < sizeLine) : mthC "append" (.lst xs) [p] = some (.non, some (.lst (xs ++ [p]))) := by
  have e1 : mthR "append" (Cell.lst xs).pv [p] = none := by
    unfold mthR
    rw [if_neg (by decide), if_neg (by decide)]
  unfold mthC
  rw [e1]
  show (mthL "append" xs [p]).map _ = _
  unfold mthL
  rw [if_pos rfl]
  simp only [if_pos h, Option.map_some]
theorem mthV_loc (m ts j env) (c0 : Cell) (h : get env j = some c0) : mthV m ts (.loc j, env) = (ts env).bind fun q => match get q.2 j with
    | some c => if kindC c = kindC c0 then (match mthC m c q.1 with
      | some (v, none) => .ok (.val v, q.2)
      | some (v, some d) => .ok (.val v, q.2.set j (some d))
      | none => .stuck) else .stuck
    | none => .stuck := by
  unfold mthV
  show (match get env j with | some c0 => _ | none => _) = _
  rw [h]
  rfl
theorem isK_len : isK "len" = false := by decide
theorem isK_isi : isK "isinstance" = false := by decide
theorem isK_int : isK "int" = false := by decide
theorem isK_abs : isK "abs" = false := by decide
theorem isK_all : isK "all" = false := by decide
theorem isK_any : isK "any" = false := by decide
theorem isK_sum : isK "sum" = false := by decide
theorem isK_min : isK "min" = false := by decide
theorem isK_max : isK "max" = false := by decide
theorem isK_tup : isK "tuple" = true := by decide
theorem isK_lst : isK "list" = true := by decide
theorem isK_srt : isK "sorted" = true := by decide
theorem blt_len (p) : bltH "len" [p] = (lenP p).map fun n => .sc (.int n) := by
  unfold bltH
  rw [if_pos rfl]
  dsimp only
  cases lenP p <;> rfl
theorem blt_isi (p T) : bltH "isinstance" [p, .ty T] = (isiP p T).map fun b => .sc (.bl b) := by
  unfold bltH
  repeat rw [if_neg (by decide)]
  rw [if_pos rfl]
theorem blt_int (i) : bltH "int" [.int i] = some (.sc (.int i)) := by
  unfold bltH
  repeat rw [if_neg (by decide)]
  rw [if_pos rfl]
theorem blt_intb (i) : bltH "int" [.bl i] = some (.sc (.int (if i = true then 1 else 0))) := by
  unfold bltH
  repeat rw [if_neg (by decide)]
  rw [if_pos rfl]
theorem blt_abs (i) : bltH "abs" [.int i] = some (.sc (.int (if i < 0 then -i else i))) := by
  unfold bltH
  repeat rw [if_neg (by decide)]
  rw [if_pos rfl]
theorem blt_all (xs) : bltH "all" [.lst xs] = (asBls xs).map fun ns => .sc (.bl (ns.all id)) := by
  unfold bltH
  repeat rw [if_neg (by decide)]
  rw [if_pos rfl]
theorem blt_any (xs) : bltH "any" [.lst xs] = (asBls xs).map fun ns => .sc (.bl (ns.any id)) := by
  unfold bltH
  repeat rw [if_neg (by decide)]
  rw [if_pos rfl]
theorem blt_sumL (xs) : bltH "sum" [.lst xs] = (asInts xs).map fun ns => .sc (.int ns.sum) := by
  unfold bltH
  repeat rw [if_neg (by decide)]
  rw [if_pos rfl]
theorem blt_sumT (xs) : bltH "sum" [.tup xs] = (asInts xs).map fun ns => .sc (.int ns.sum) := by
  unfold bltH
  repeat rw [if_neg (by decide)]
  rw [if_pos rfl]
theorem blt_max2 (i j) : bltH "max" [.int i, .int j] = some (.sc (.int (if j > i then j else i))) := by
  unfold bltH
  repeat rw [if_neg (by decide)]
  rw [if_pos rfl]
theorem blt_maxT (n : Int) (ns : List Int) : bltH "max" [.tup ((n :: ns).map .int)] = some (.sc (.int (ns.foldl max n))) := by
  unfold bltH
  repeat rw [if_neg (by decide)]
  rw [if_pos rfl]
  dsimp only
  rw [asInts_of]
theorem blt_maxL (n : Int) (ns : List Int) : bltH "max" [.lst ((n :: ns).map .int)] = some (.sc (.int (ns.foldl max n))) := by
  unfold bltH
  repeat rw [if_neg (by decide)]
  rw [if_pos rfl]
  dsimp only
  rw [asInts_of]
theorem blt_min2 (i j) : bltH "min" [.int i, .int j] = some (.sc (.int (if j < i then j else i))) := by
  unfold bltH
  repeat rw [if_neg (by decide)]
  rw [if_pos rfl]
theorem blt_tupL (xs) : bltK "tuple" [.lst xs] = some (.tup xs) := by
  unfold bltK
  rw [if_pos rfl]
theorem blt_tupT (xs) : bltK "tuple" [.tup xs] = some (.sc (.tup xs)) := by
  unfold bltK
  rw [if_pos rfl]
theorem blt_lstL (xs) : bltK "list" [.lst xs] = some (.lst xs) := by
  unfold bltK
  rw [if_neg (by decide), if_pos rfl]
theorem blt_lstT (xs) : bltK "list" [.tup xs] = some (.lst xs) := by
  unfold bltK
  rw [if_neg (by decide), if_pos rfl]
theorem set_zero (a b : Option Cell) (l : Env) : List.set (a :: l) 0 b = b :: l := rfl
theorem set_succ (a b : Option Cell) (l : Env) (n : Nat) : List.set (a :: l) (n + 1) b = a :: List.set l n b := rfl
theorem put_val (i p env) : put i (.val p) env = if i < env.length then some (env.set i (some (.fz p))) else none := rfl
theorem put_new (i c env) : put i (.new c) env = if i < env.length then (if i = 0 then none else some (env.set i (some c))) else none := rfl
/-- the equations of a run, together -/
theorem EV0 : type_of% @bndD_ok ∧ type_of% @bndD_exc ∧ type_of% @bndD_stuck ∧ type_of% @optR_some ∧ type_of% @get_zero ∧ type_of% @get_succ ∧ type_of% @v_var ∧ type_of% @v_con ∧ type_of% @v_gco ∧ type_of% @v_bop ∧ type_of% @v_neg ∧ type_of% @v_not ∧ type_of% @t_not ∧ type_of% @v_and ∧ type_of% @t_and ∧ type_of% @v_or ∧ type_of% @t_or ∧ type_of% @v_cmp ∧ type_of% @t_cmp ∧ type_of% @v_chn ∧ type_of% @t_chn ∧ type_of% @v_ite ∧ type_of% @t_ite ∧ type_of% @i_ite ∧ type_of% @v_tup ∧ type_of% @i_tup ∧ type_of% @v_lst ∧ type_of% @i_lst ∧ type_of% @v_call ∧ type_of% @t_call ∧ type_of% @i_call ∧ type_of% @v_calm ∧ type_of% @t_calm ∧ type_of% @v_blt ∧ type_of% @t_blt ∧ type_of% @t_var ∧ type_of% @t_con ∧ type_of% @i_range ∧ type_of% @i_zip ∧ type_of% @i_enum :=
  ⟨@bndD_ok, @bndD_exc, @bndD_stuck, @optR_some, @get_zero, @get_succ, @v_var, @v_con, @v_gco, @v_bop, @v_neg, @v_not, @t_not, @v_and, @t_and, @v_or, @t_or, @v_cmp, @t_cmp, @v_chn, @t_chn, @v_ite, @t_ite, @i_ite, @v_tup, @i_tup, @v_lst, @i_lst, @v_call, @t_call, @i_call, @v_calm, @t_calm, @v_blt, @t_blt, @t_var, @t_con, @i_range, @i_zip, @i_enum⟩
theorem EV1 : type_of% @i_var ∧ type_of% @v_mth ∧ type_of% @v_ix ∧ type_of% @t_ix ∧ type_of% @i_ix ∧ type_of% @v_sl ∧ type_of% @i_sl ∧ type_of% @v_rev ∧ type_of% @v_frz ∧ type_of% @i_frz ∧ type_of% @v_lck ∧ type_of% @v_sset ∧ type_of% @i_lc ∧ type_of% @ts_nil ∧ type_of% @ts_cons ∧ type_of% @hs_nil ∧ type_of% @hs_cons ∧ type_of% @g_nm ∧ type_of% @g_tup ∧ type_of% @g_ix ∧ type_of% @gs_nil ∧ type_of% @gs_cons ∧ type_of% @s_expr ∧ type_of% @s_set ∧ type_of% @s_asgT ∧ type_of% @s_asgX ∧ type_of% @s_par2 ∧ type_of% @s_par3 ∧ type_of% @s_aug ∧ type_of% @s_ite ∧ type_of% @s_ret ∧ type_of% @s_retn ∧ type_of% @s_rai ∧ type_of% @s_raw ∧ type_of% @s_brk ∧ type_of% @s_cnt ∧ type_of% @s_pass ∧ type_of% @ss_nil ∧ type_of% @ss_cons ∧ type_of% @rd_val :=
  ⟨@i_var, @v_mth, @v_ix, @t_ix, @i_ix, @v_sl, @i_sl, @v_rev, @v_frz, @i_frz, @v_lck, @v_sset, @i_lc, @ts_nil, @ts_cons, @hs_nil, @hs_cons, @g_nm, @g_tup, @g_ix, @gs_nil, @gs_cons, @s_expr, @s_set, @s_asgT, @s_asgX, @s_par2, @s_par3, @s_aug, @s_ite, @s_ret, @s_retn, @s_rai, @s_raw, @s_brk, @s_cnt, @s_pass, @ss_nil, @ss_cons, @rd_val⟩
theorem EV2 : type_of% @rd_newL ∧ type_of% @rd_newD ∧ type_of% @rd_brwL ∧ type_of% @rd_loc ∧ type_of% @rdH_val ∧ type_of% @rdH_new ∧ type_of% @rdH_brw ∧ type_of% @rdH_loc ∧ type_of% @unb_val ∧ type_of% @unb_new ∧ type_of% @unb_loc ∧ type_of% @unb_brw ∧ type_of% @unbs_nil ∧ type_of% @unbs_cons ∧ type_of% @getC_nil ∧ type_of% @vw_val ∧ type_of% @vw_new ∧ type_of% @vw_loc ∧ type_of% @vw_brw ∧ type_of% @fl_fz ∧ type_of% @fl_lst ∧ type_of% @fl_dct ∧ type_of% @take_val ∧ type_of% @take_new ∧ type_of% @take_loc ∧ type_of% @settle_val ∧ type_of% @settle_new ∧ type_of% @settle_loc ∧ type_of% @give_val ∧ type_of% @give_new ∧ type_of% @give_loc ∧ type_of% @pv_fz ∧ type_of% @pv_lst ∧ type_of% @pv_dct ∧ type_of% @mk_sc ∧ type_of% @mk_tup ∧ type_of% @mk_lst ∧ type_of% @mk_srt ∧ type_of% @rds_nil ∧ type_of% @rds_cons :=
  ⟨@rd_newL, @rd_newD, @rd_brwL, @rd_loc, @rdH_val, @rdH_new, @rdH_brw, @rdH_loc, @unb_val, @unb_new, @unb_loc, @unb_brw, @unbs_nil, @unbs_cons, @getC_nil, @vw_val, @vw_new, @vw_loc, @vw_brw, @fl_fz, @fl_lst, @fl_dct, @take_val, @take_new, @take_loc, @settle_val, @settle_new, @settle_loc, @give_val, @give_new, @give_loc, @pv_fz, @pv_lst, @pv_dct, @mk_sc, @mk_tup, @mk_lst, @mk_srt, @rds_nil, @rds_cons⟩
theorem EV3 : type_of% @vals_nil ∧ type_of% @vals_cons ∧ type_of% @endC_none ∧ type_of% @endC_some ∧ type_of% @endC_exc ∧ type_of% @ixV_val ∧ type_of% @ixV_new ∧ type_of% @ixV_loc ∧ type_of% @idx_fz ∧ type_of% @idx_lst ∧ type_of% @idx_dct ∧ type_of% @wrt_loc ∧ type_of% @kn_lst ∧ type_of% @kn_eq ∧ type_of% @isK_len ∧ type_of% @isK_isi ∧ type_of% @isK_int ∧ type_of% @isK_abs ∧ type_of% @isK_all ∧ type_of% @isK_any ∧ type_of% @isK_sum ∧ type_of% @isK_min ∧ type_of% @isK_max ∧ type_of% @isK_tup ∧ type_of% @isK_lst ∧ type_of% @isK_srt ∧ type_of% @blt_len ∧ type_of% @blt_isi ∧ type_of% @blt_int ∧ type_of% @blt_intb ∧ type_of% @blt_abs ∧ type_of% @blt_all ∧ type_of% @blt_any ∧ type_of% @blt_sumL ∧ type_of% @blt_sumT ∧ type_of% @blt_max2 ∧ type_of% @blt_maxT ∧ type_of% @blt_maxL ∧ type_of% @blt_min2 ∧ type_of% @blt_tupL :=
  ⟨@vals_nil, @vals_cons, @endC_none, @endC_some, @endC_exc, @ixV_val, @ixV_new, @ixV_loc, @idx_fz, @idx_lst, @idx_dct, @wrt_loc, @kn_lst, @kn_eq, @isK_len, @isK_isi, @isK_int, @isK_abs, @isK_all, @isK_any, @isK_sum, @isK_min, @isK_max, @isK_tup, @isK_lst, @isK_srt, @blt_len, @blt_isi, @blt_int, @blt_intb, @blt_abs, @blt_all, @blt_any, @blt_sumL, @blt_sumT, @blt_max2, @blt_maxT, @blt_maxL, @blt_min2, @blt_tupL⟩
theorem EVp : type_of% @put_lst ∧ type_of% @wrt_loc := ⟨@put_lst, @wrt_loc⟩
theorem EV4 : type_of% @blt_tupT ∧ type_of% @blt_lstL ∧ type_of% @blt_lstT ∧ type_of% @set_zero ∧ type_of% @set_succ ∧ type_of% @put_val ∧ type_of% @put_new :=
  ⟨@blt_tupT, @blt_lstL, @blt_lstT, @set_zero, @set_succ, @put_val, @put_new⟩
theorem EVA : type_of% @EVp ∧ type_of% @EV0 ∧ type_of% @EV1 ∧ type_of% @EV2 ∧ type_of% @EV3 ∧ type_of% @EV4 :=
  ⟨@EVp, @EV0, @EV1, @EV2, @EV3, @EV4⟩
end PL
set_option Elab.async false
set_option linter.all false
set_option maxRecDepth 100000
set_option maxHeartbeats 4000000
namespace PL
open PySem PySem.Spec PyProof.Rows L2
/-! ### loops of runs -/
section
variable {α : Type} {bind : PV → Env → Res Env} {test : Env → Res (Bool × Env)} {elt : Env → Res (PV × Env)} {wipe : Env → Env} {own : List Nat} {φ : α → PV}
/-- one turn of a comprehension -/
def lcTurn (bind : PV → Env → Res Env) (test : Env → Res (Bool × Env)) (elt : Env → Res (PV × Env)) (wipe : Env → Env) (x : PV) (env : Env) : Res (Option PV × Env) :=
  (bind x env).bind fun e1 => (test e1).bind fun b => match b.1 with
    | true => (elt b.2).bind fun r => .ok (some r.1, wipe r.2)
    | false => .ok (none, wipe b.2)
theorem lcGo_cons (x : PV) (xs acc : List PV) (env : Env) : lcGo own bind test elt wipe (x :: xs) acc env = (lcTurn bind test elt wipe x env).bind fun r => lcGo own bind test elt wipe xs (acc ++ r.1.toList) r.2 := by
  unfold lcTurn
  show ((bind x env).bind fun e1 => (test e1).bind fun b => match b.1 with
    | true => (elt b.2).bind fun r => lcGo own bind test elt wipe xs (acc ++ [r.1]) (wipe r.2)
    | false => lcGo own bind test elt wipe xs acc (wipe b.2)) = _
  rw [Res.assoc]
  congr 1; funext e1
  rw [Res.assoc]
  congr 1; funext b
  cases b.1 with
  | true =>
    dsimp only
    rw [Res.assoc]
    rfl
  | false =>
    simp [bind_ok]
/-- a state goes through the turns -/
def goV {σ : Type} (g : α → σ → Option PV) (step : α → σ → σ) : List α → σ → List PV
  | [], _ => []
  | a :: r, s => (g a s).toList ++ goV g step r (step a s)
def goS {σ : Type} (step : α → σ → σ) : List α → σ → σ
  | [], s => s
  | a :: r, s => goS step r (step a s)
theorem lcGo_st {σ : Type} {I : σ → Prop} {W : σ → Env} {g : α → σ → Option PV} {step : α → σ → σ} : ∀ (xs : List α) (acc : List PV) (s : σ), I s → (∀ a ∈ xs, ∀ s, I s → lcTurn bind test elt wipe (φ a) (W s) = .ok (g a s, W (step a s)) ∧ I (step a s)) →
    lcGo own bind test elt wipe (xs.map φ) acc (W s) = .ok (acc ++ goV g step xs s, W (goS step xs s)) ∧ I (goS step xs s)
  | [], acc, s, hi, _ => ⟨by
      show Res.ok (acc, W s) = _
      rw [show goV g step [] s = [] from rfl, List.append_nil]
      rfl, hi⟩
  | a :: r, acc, s, hi, h => by
    obtain ⟨h1, h2⟩ := h a List.mem_cons_self s hi
    rw [List.map_cons, lcGo_cons, h1, bind_ok]
    obtain ⟨h3, h4⟩ := lcGo_st r (acc ++ (g a s).toList) (step a s) h2 fun b hb => h b (List.mem_cons_of_mem _ hb)
    refine ⟨?_, h4⟩
    rw [h3]
    show Res.ok (acc ++ (g a s).toList ++ goV g step r (step a s), _) = Res.ok (acc ++ ((g a s).toList ++ goV g step r (step a s)), _)
    rw [List.append_assoc]
    rfl
theorem lcGo_fm {w : Env} {g : α → Option PV} : ∀ (xs : List α) (acc : List PV), (∀ a ∈ xs, lcTurn bind test elt wipe (φ a) w = .ok (g a, w)) → lcGo own bind test elt wipe (xs.map φ) acc w = .ok (acc ++ xs.filterMap g, w)
  | [], acc, _ => by
    show Res.ok (acc, w) = _
    rw [List.filterMap_nil, List.append_nil]
  | a :: r, acc, h => by
    rw [List.map_cons, lcGo_cons, h a List.mem_cons_self, bind_ok]
    show lcGo own bind test elt wipe (r.map φ) (acc ++ (g a).toList) w = _
    rw [lcGo_fm r _ fun b hb => h b (List.mem_cons_of_mem _ hb), List.filterMap_cons]
    cases g a with
    | none => simp
    | some q => simp
theorem lcGo_map {w : Env} {g : α → PV} (xs : List α) (acc : List PV) (h : ∀ a ∈ xs, lcTurn bind test elt wipe (φ a) w = .ok (some (g a), w)) : lcGo own bind test elt wipe (xs.map φ) acc w = .ok (acc ++ xs.map g, w) := by
  rw [lcGo_fm (g := fun a => some (g a)) xs acc h]
  congr 3
  induction xs with
  | nil => rfl
  | cons a r ih => rw [List.filterMap_cons, List.map_cons, ih fun b hb => h b (List.mem_cons_of_mem _ hb)]
theorem lcGo_filter {w : Env} {p : α → Bool} {g : α → PV} (xs : List α) (acc : List PV) (h : ∀ a ∈ xs, lcTurn bind test elt wipe (φ a) w = .ok (if p a then some (g a) else none, w)) : lcGo own bind test elt wipe (xs.map φ) acc w = .ok (acc ++ (xs.filter p).map g, w) := by
  rw [lcGo_fm (g := fun a => if p a then some (g a) else none) xs acc h]
  congr 3
  clear h
  induction xs with
  | nil => rfl
  | cons a r ih =>
    rw [List.filterMap_cons, List.filter_cons]
    cases p a with
    | true => simp [ih]
    | false => simp [ih]
/-- two clauses -/
theorem lc2Go_map {inner : Env → List PV → Res (List PV × Env)} {w : Env} {g : α → List PV} : ∀ (xs : List α) (acc : List PV), (∀ a ∈ xs, ∀ acc, ((bind (φ a) w).bind fun e1 => (test e1).bind fun b => match b.1 with
      | true => (inner b.2 acc).bind fun r => .ok (r.1, wipe r.2)
      | false => .ok (acc, wipe b.2)) = .ok (acc ++ g a, w)) → lc2Go own bind test inner wipe (xs.map φ) acc w = .ok (acc ++ (xs.map g).flatten, w)
  | [], acc, _ => by
    show Res.ok (acc, w) = _
    simp
  | a :: r, acc, h => by
    have e : lc2Go own bind test inner wipe ((a :: r).map φ) acc w = (((bind (φ a) w).bind fun e1 => (test e1).bind fun b => match b.1 with
      | true => (inner b.2 acc).bind fun r => .ok (r.1, wipe r.2)
      | false => .ok (acc, wipe b.2))).bind fun q => lc2Go own bind test inner wipe (r.map φ) q.1 q.2 := by
      show ((bind (φ a) w).bind fun e1 => (test e1).bind fun b => match b.1 with
        | true => (inner b.2 acc).bind fun q => lc2Go own bind test inner wipe (r.map φ) q.1 (wipe q.2)
        | false => lc2Go own bind test inner wipe (r.map φ) acc (wipe b.2)) = _
      rw [Res.assoc]
      congr 1; funext e1
      rw [Res.assoc]
      congr 1; funext b
      cases b.1 with
      | true =>
        dsimp only
        rw [Res.assoc]
        rfl
      | false => rfl
    rw [e, h a List.mem_cons_self, bind_ok, lc2Go_map r _ fun b hb => h b (List.mem_cons_of_mem _ hb)]
    simp
/-- a dict's turns -/
theorem dcGo_map {ent : Env → Res ((List L2.Key × PV) × Env)} {w : Env} {g : α → List L2.Key × PV} : ∀ (xs : List α) (acc : List (List L2.Key × PV)), (∀ a ∈ xs, ((bind (φ a) w).bind fun e1 => (test e1).bind fun b => match b.1 with
      | true => (ent b.2).bind fun r => .ok (some r.1, wipe r.2)
      | false => .ok (none, wipe b.2)) = .ok (some (g a), w)) → dcGo own bind test ent wipe (xs.map φ) acc w = .ok (xs.foldl (fun acc a => dPut acc (g a).1 (g a).2) acc, w)
  | [], acc, _ => rfl
  | a :: r, acc, h => by
    have e : dcGo own bind test ent wipe ((a :: r).map φ) acc w = (((bind (φ a) w).bind fun e1 => (test e1).bind fun b => match b.1 with
      | true => (ent b.2).bind fun r => .ok (some r.1, wipe r.2)
      | false => .ok (none, wipe b.2))).bind fun (q : Option (List L2.Key × PV) × Env) => dcGo own bind test ent wipe (r.map φ) (match q.1 with | some k => dPut acc k.1 k.2 | none => acc) q.2 := by
      show ((bind (φ a) w).bind fun e1 => (test e1).bind fun b => match b.1 with
        | true => (ent b.2).bind fun q => dcGo own bind test ent wipe (r.map φ) (dPut acc q.1.1 q.1.2) (wipe q.2)
        | false => dcGo own bind test ent wipe (r.map φ) acc (wipe b.2)) = _
      rw [Res.assoc]
      congr 1; funext e1
      rw [Res.assoc]
      congr 1; funext b
      cases b.1 with
      | true =>
        dsimp only
        rw [Res.assoc]
        rfl
      | false => rfl
    rw [e, h a List.mem_cons_self, bind_ok]
    show dcGo own bind test ent wipe (r.map φ) (dPut acc (g a).1 (g a).2) w = _
    rw [dcGo_map r _ fun b hb => h b (List.mem_cons_of_mem _ hb)]
    rfl
/-- .. of two clauses -/
theorem dc2Go_map {inner : Env → List (List L2.Key × PV) → Res (List (List L2.Key × PV) × Env)} {w : Env} {g : List (List L2.Key × PV) → α → List (List L2.Key × PV)} : ∀ (xs : List α) (acc : List (List L2.Key × PV)), (∀ a ∈ xs, ∀ acc, ((bind (φ a) w).bind fun e1 => (test e1).bind fun b => match b.1 with
      | true => (inner b.2 acc).bind fun r => .ok (r.1, wipe r.2)
      | false => .ok (acc, wipe b.2)) = .ok (g acc a, w)) → dc2Go own bind test inner wipe (xs.map φ) acc w = .ok (xs.foldl g acc, w)
  | [], acc, _ => rfl
  | a :: r, acc, h => by
    have e : dc2Go own bind test inner wipe ((a :: r).map φ) acc w = (((bind (φ a) w).bind fun e1 => (test e1).bind fun b => match b.1 with
      | true => (inner b.2 acc).bind fun r => .ok (r.1, wipe r.2)
      | false => .ok (acc, wipe b.2))).bind fun q => dc2Go own bind test inner wipe (r.map φ) q.1 q.2 := by
      show ((bind (φ a) w).bind fun e1 => (test e1).bind fun b => match b.1 with
        | true => (inner b.2 acc).bind fun q => dc2Go own bind test inner wipe (r.map φ) q.1 (wipe q.2)
        | false => dc2Go own bind test inner wipe (r.map φ) acc (wipe b.2)) = _
      rw [Res.assoc]
      congr 1; funext e1
      rw [Res.assoc]
      congr 1; funext b
      cases b.1 with
      | true =>
        dsimp only
        rw [Res.assoc]
        rfl
      | false => rfl
    rw [e, h a List.mem_cons_self, bind_ok, dc2Go_map r _ fun b hb => h b (List.mem_cons_of_mem _ hb)]
    rfl
end
section
variable {bind : PV → Env → Res Env} {body : Env → Res (Fl × Env)}
theorem forGo_inv {P : List PV → Env → Prop} : ∀ {items pre : List PV} {env : Env}, (∀ pre' x post, pre ++ items = pre' ++ x :: post → ∀ env, P pre' env → ∃ env' f, (bind x env).bind body = .ok (f, env') ∧ (f = .nx ∨ f = .ct) ∧ P (pre' ++ [x]) env') → P pre env →
    ∃ env', forGo bind body items env = .ok (.nx, env') ∧ P (pre ++ items) env'
  | [], pre, env, _, h => ⟨env, rfl, by rw [List.append_nil]; exact h⟩
  | x :: xs, pre, env, H, h => by
    obtain ⟨e1, f, h1, h2, h3⟩ := H pre x xs rfl env h
    obtain ⟨e2, h4, h5⟩ := forGo_inv (items := xs) (pre := pre ++ [x]) (env := e1) (fun pre' y post e env' p => H pre' y post (by rw [← e]; simp) env' p) h3
    refine ⟨e2, ?_, by rw [List.append_assoc] at h5; exact h5⟩
    show ((bind x env).bind fun e1 => (body e1).bind fun r => match r.1 with
      | .nx => forGo bind body xs r.2
      | .ct => forGo bind body xs r.2
      | .bk => .ok (.nx, r.2)
      | .rt v => .ok (.rt v, r.2)) = _
    rw [← Res.assoc, h1, bind_ok]
    rcases h2 with rfl | rfl <;> exact h4
theorem forGo_all {P : Env → Prop} {items : List PV} {env : Env} (H : ∀ x ∈ items, ∀ env, P env → ∃ env', (bind x env).bind body = .ok (.nx, env') ∧ P env') (h : P env) : ∃ env', forGo bind body items env = .ok (.nx, env') ∧ P env' :=
  forGo_inv (P := fun _ => P) (pre := []) (fun pre' x post e env' p => let ⟨e1, h1, h2⟩ := H x (by rw [show items = pre' ++ x :: post from e]; simp) env' p; ⟨e1, .nx, h1, .inl rfl, h2⟩) h
end
theorem noexc_ok {α : Type} (a : α) : (Res.ok a : Res α).noexc = .ok a := rfl
theorem pl_fz (own : List Nat) (i : Nat) (env : Env) : plainAt env (i :: own) = ((match get env i with
  | none => true
  | some (.fz _) => true
  | _ => false) && plainAt env own) := rfl
theorem pl_nil (env : Env) : plainAt env [] = true := rfl
theorem wp_nil (env : Env) : wipeE env [] = env := rfl
theorem wp_cons (env : Env) (i r) : wipeE env (i :: r) = (wipeE env r).set i none := rfl
theorem rs_nil (old env : Env) : restore old env [] = env := rfl
theorem rs_cons (old env : Env) (i r) : restore old env (i :: r) = (restore old env r).set i (get old i) := rfl
theorem EP : type_of% @noexc_ok ∧ type_of% @pl_fz ∧ type_of% @pl_nil ∧ type_of% @wp_nil ∧ type_of% @wp_cons ∧ type_of% @rs_nil ∧ type_of% @rs_cons :=
  ⟨@noexc_ok, @pl_fz, @pl_nil, @wp_nil, @wp_cons, @rs_nil, @rs_cons⟩
end PL
set_option Elab.async false
set_option linter.all false
set_option maxRecDepth 100000
set_option maxHeartbeats 4000000
namespace PL
open PySem PySem.Spec PyProof.Rows L2
theorem shp_int (i : Int) : shp (.int i) = true := rfl
theorem eqP_int (i j : Int) : eqP (.int i) (.int j) = decide (i = j) := by
  show PyData.eqv (.int i) (.int j) = _
  by_cases h : i = j
  · subst h; simp [PyData.eqv]
  · simp [PyData.eqv, h]
theorem cop_eq_int (i j : Int) : copV .eq (.int i) (.int j) = some (decide (i = j)) := by
  show (if shp (.int i) = true ∧ shp (.int j) = true then some (eqP (.int i) (.int j)) else none) = _
  rw [if_pos ⟨rfl, rfl⟩, eqP_int]
theorem cop_ne_int (i j : Int) : copV .ne (.int i) (.int j) = some (!decide (i = j)) := by
  show (if shp (.int i) = true ∧ shp (.int j) = true then some (!eqP (.int i) (.int j)) else none) = _
  rw [if_pos ⟨rfl, rfl⟩, eqP_int]
theorem tr_non : truP .non = some false := rfl
theorem tr_bl : ∀ b, truP (.bl b) = some b := fun _ => rfl
theorem tr_int : ∀ i, truP (.int i) = some (i != 0) := fun _ => rfl
theorem tr_tup : ∀ xs, truP (.tup xs) = some (!xs.isEmpty) := fun _ => rfl
theorem tr_lst : ∀ xs, truP (.lst xs) = some (!xs.isEmpty) := fun _ => rfl
theorem ln_tup : ∀ xs, lenP (.tup xs) = some xs.length := fun _ => rfl
theorem ln_lst : ∀ xs, lenP (.lst xs) = some xs.length := fun _ => rfl
theorem ln_scr : ∀ xs, lenP (.scr xs) = some xs.length := fun _ => rfl
theorem cp_lt : ∀ i j, copV .lt (.int i) (.int j) = some (decide (i < j)) := fun _ _ => rfl
theorem cp_le : ∀ i j, copV .le (.int i) (.int j) = some (decide (i ≤ j)) := fun _ _ => rfl
theorem cp_gt : ∀ i j, copV .gt (.int i) (.int j) = some (decide (j < i)) := fun _ _ => rfl
theorem cp_ge : ∀ i j, copV .ge (.int i) (.int j) = some (decide (j ≤ i)) := fun _ _ => rfl
theorem cp_eqi : ∀ i j, copV .eq (.int i) (.int j) = some (decide (i = j)) := fun i j => cop_eq_int i j
theorem cp_nei : ∀ i j, copV .ne (.int i) (.int j) = some (!decide (i = j)) := fun i j => cop_ne_int i j
theorem cp_eqb : ∀ i j, copV .eq (.bl i) (.bl j) = some (decide (i = j)) := fun i j => by cases i <;> cases j <;> rfl
theorem cp_neb : ∀ i j, copV .ne (.bl i) (.bl j) = some (!decide (i = j)) := fun i j => by cases i <;> cases j <;> rfl
theorem cp_isb : ∀ i j, copV .is (.bl i) (.bl j) = some (decide (i = j)) := fun _ _ => rfl
theorem cp_isnb : ∀ i j, copV .isn (.bl i) (.bl j) = some (!decide (i = j)) := fun _ _ => rfl
theorem is_non : copV .is (.non) .non = some true := rfl
theorem isn_non : copV .isn (.non) .non = some false := rfl
theorem ii_non_int : isiP (.non) "int" = some false := rfl
theorem ii_non_bool : isiP (.non) "bool" = some false := rfl
theorem ii_non_str : isiP (.non) "str" = some false := rfl
theorem ii_non_tuple : isiP (.non) "tuple" = some false := rfl
theorem ii_non_list : isiP (.non) "list" = some false := rfl
theorem ii_non_dict : isiP (.non) "dict" = some false := rfl
theorem is_bl : ∀ a, copV .is (.bl a) .non = some false := fun _ => rfl
theorem isn_bl : ∀ a, copV .isn (.bl a) .non = some true := fun _ => rfl
theorem ii_bl_int : ∀ a, isiP (.bl a) "int" = some true := fun _ => rfl
theorem ii_bl_bool : ∀ a, isiP (.bl a) "bool" = some true := fun _ => rfl
theorem ii_bl_str : ∀ a, isiP (.bl a) "str" = some false := fun _ => rfl
theorem ii_bl_tuple : ∀ a, isiP (.bl a) "tuple" = some false := fun _ => rfl
theorem ii_bl_list : ∀ a, isiP (.bl a) "list" = some false := fun _ => rfl
theorem ii_bl_dict : ∀ a, isiP (.bl a) "dict" = some false := fun _ => rfl
theorem is_int : ∀ a, copV .is (.int a) .non = some false := fun _ => rfl
theorem isn_int : ∀ a, copV .isn (.int a) .non = some true := fun _ => rfl
theorem ii_int_int : ∀ a, isiP (.int a) "int" = some true := fun _ => rfl
theorem ii_int_bool : ∀ a, isiP (.int a) "bool" = some false := fun _ => rfl
theorem ii_int_str : ∀ a, isiP (.int a) "str" = some false := fun _ => rfl
theorem ii_int_tuple : ∀ a, isiP (.int a) "tuple" = some false := fun _ => rfl
theorem ii_int_list : ∀ a, isiP (.int a) "list" = some false := fun _ => rfl
theorem ii_int_dict : ∀ a, isiP (.int a) "dict" = some false := fun _ => rfl
theorem is_str : ∀ a, copV .is (.str a) .non = some false := fun _ => rfl
theorem isn_str : ∀ a, copV .isn (.str a) .non = some true := fun _ => rfl
theorem ii_str_int : ∀ a, isiP (.str a) "int" = some false := fun _ => rfl
theorem ii_str_bool : ∀ a, isiP (.str a) "bool" = some false := fun _ => rfl
theorem ii_str_str : ∀ a, isiP (.str a) "str" = some true := fun _ => rfl
theorem ii_str_tuple : ∀ a, isiP (.str a) "tuple" = some false := fun _ => rfl
theorem ii_str_list : ∀ a, isiP (.str a) "list" = some false := fun _ => rfl
theorem ii_str_dict : ∀ a, isiP (.str a) "dict" = some false := fun _ => rfl
theorem is_tup : ∀ a, copV .is (.tup a) .non = some false := fun _ => rfl
theorem isn_tup : ∀ a, copV .isn (.tup a) .non = some true := fun _ => rfl
theorem ii_tup_int : ∀ a, isiP (.tup a) "int" = some false := fun _ => rfl
theorem ii_tup_bool : ∀ a, isiP (.tup a) "bool" = some false := fun _ => rfl
theorem ii_tup_str : ∀ a, isiP (.tup a) "str" = some false := fun _ => rfl
theorem ii_tup_tuple : ∀ a, isiP (.tup a) "tuple" = some true := fun _ => rfl
theorem ii_tup_list : ∀ a, isiP (.tup a) "list" = some false := fun _ => rfl
theorem ii_tup_dict : ∀ a, isiP (.tup a) "dict" = some false := fun _ => rfl
theorem is_lst : ∀ a, copV .is (.lst a) .non = some false := fun _ => rfl
theorem isn_lst : ∀ a, copV .isn (.lst a) .non = some true := fun _ => rfl
theorem ii_lst_int : ∀ a, isiP (.lst a) "int" = some false := fun _ => rfl
theorem ii_lst_bool : ∀ a, isiP (.lst a) "bool" = some false := fun _ => rfl
theorem ii_lst_str : ∀ a, isiP (.lst a) "str" = some false := fun _ => rfl
theorem ii_lst_tuple : ∀ a, isiP (.lst a) "tuple" = some false := fun _ => rfl
theorem ii_lst_list : ∀ a, isiP (.lst a) "list" = some true := fun _ => rfl
theorem ii_lst_dict : ∀ a, isiP (.lst a) "dict" = some false := fun _ => rfl
theorem bo_add : ∀ i j, bopV .add (.int i) (.int j) = some (.sc (.int (i + j))) := fun _ _ => rfl
theorem bo_sub : ∀ i j, bopV .sub (.int i) (.int j) = some (.sc (.int (i - j))) := fun _ _ => rfl
theorem bo_mul : ∀ i j, mulOk i j = true → bopV .mul (.int i) (.int j) = some (.sc (.int (i * j))) := fun i j h => if_pos h
theorem bo_mod : ∀ i j, j ≠ 0 → bopV .mod (.int i) (.int j) = some (.sc (.int (i.fmod j))) := fun i j h => if_pos h
theorem bo_fdiv : ∀ i j, j ≠ 0 → Builtin.divisionGoesByPylong i j = false → bopV .fdiv (.int i) (.int j) = some (.sc (.int (i.fdiv j))) := fun i j h h2 => if_pos ⟨h, h2⟩
theorem bo_addt : ∀ xs ys, xs.length + ys.length ≤ sizeLine → bopV .add (.tup xs) (.tup ys) = some (.tup (xs ++ ys)) := fun i j h => if_pos h
theorem bo_addl : ∀ xs ys, xs.length + ys.length ≤ sizeLine → bopV .add (.lst xs) (.lst ys) = some (.lst (xs ++ ys)) := fun i j h => if_pos h
theorem ix_tup : ∀ xs i, ixP (.tup xs) (.int i) = atI xs i := fun _ _ => rfl
theorem ix_lst : ∀ xs i, ixP (.lst xs) (.int i) = atI xs i := fun _ _ => rfl
theorem it_tup : ∀ xs, itemsP (.tup xs) = some xs := fun _ => rfl
theorem it_lst : ∀ xs, itemsP (.lst xs) = some xs := fun _ => rfl
theorem it_scr : ∀ xs, itemsP (.scr xs) = some (xs.map .int) := fun _ => rfl
theorem io_add : ∀ i j, iopV .add (.int i) (.int j) = some (.int (i + j)) := fun _ _ => rfl
theorem io_sub : ∀ i j, iopV .sub (.int i) (.int j) = some (.int (i - j)) := fun _ _ => rfl
theorem its_eq : ∀ e env, itsV e env = (e env).bind itI := fun _ _ => rfl
theorem it_val : ∀ p env, itI (.val p, env) = (optR (itemsP p)).bind fun xs => .ok ((xs, .val .non), env) := fun _ _ => rfl
theorem it_newL : ∀ xs env, itI (.new (.lst xs), env) = .ok ((xs, .val .non), env) := fun _ _ => by
  unfold itI
  dsimp only
  unfold tkI
  dsimp only
  rw [take_new, pv_lst]
  rfl
theorem it_loc : ∀ j env, itI (.loc j, env) = match get env j with
    | some c => if flat c = true then (optR (itemsP c.pv)).bind fun xs => .ok ((xs, .brw j [] c), env.set j none) else tkI (.loc j, env)
    | none => .stuck := fun _ _ => rfl
theorem tru_eq : ∀ e env, truV e env = (e env).bind fun r => (optR (rdH r.2 r.1)).bind fun p => (optR (truP p)).bind fun b => .ok (b, unb r.1 r.2) := fun _ _ => rfl
/-- a range, behind its arguments -/
def rngB (r : List RV × Env) : Res ((List PV × RV) × Env) := match r.1 with
  | [.val (.int j)] => if bnd j ∧ j.toNat ≤ sizeLine then .ok ((rangeP 0 j.toNat, .val .non), r.2) else .stuck
  | [.val (.int i), .val (.int j)] => if bnd i ∧ bnd j ∧ (j - i).toNat ≤ sizeLine then .ok ((rangeP i (j - i).toNat, .val .non), r.2) else .stuck
  | [.val (.int i), .val (.int j), .val (.int c)] => if bnd i ∧ bnd j ∧ c = -1 ∧ (i - j).toNat ≤ sizeLine then .ok ((rangeC i c (i - j).toNat, .val .non), r.2) else .stuck
  | _ => .stuck
theorem rng_eq : ∀ (h : Env → Res (List RV × Env)) env, rngV h env = (h env).bind rngB := fun _ _ => rfl
theorem zip_eq : ∀ h env, zipV h env = (h env).bind fun r => match r.1 with | [.lst xs, .lst ys] => .ok ((zipP xs ys, .val .non), r.2) | [.tup xs, .tup ys] => .ok ((zipP xs ys, .val .non), r.2) | _ => .stuck := fun _ _ => rfl
theorem enu_eq : ∀ h env, enuV h env = (h env).bind fun r => match r.1 with | [.lst xs] => .ok ((enumP 0 xs, .val .non), r.2) | _ => .stuck := fun _ _ => rfl
theorem isf_fz : ∀ p, isFz (.fz p) = true := fun _ => rfl
theorem isf_lst : ∀ p, isFz (.lst p) = false := fun _ => rfl
theorem io_val : ∀ p r, isOwn (.val p :: r) = false := fun _ _ => rfl
theorem io_own : ∀ p r, isOwn (.own p :: r) = true := fun _ _ => rfl
theorem io_nil : isOwn [] = false := rfl
theorem ed_nx : ∀ args env, endDef args (.ok (.nx, env)) = if isOwn args = true then (match get env 0 with | some c => if isFz c = true then .stuck else .ok (.val .non) (some c) | none => .stuck) else .ok (.val .non) none := fun _ _ => rfl
theorem ed_rv : ∀ args env p, endDef args (.ok (.rt (.val p), env)) = if isOwn args = true then (match get env 0 with | some c => if isFz c = true then .stuck else .ok (.val p) (some c) | none => .stuck) else .ok (.val p) none := fun _ _ _ => rfl
theorem ed_rn : ∀ args env p, endDef args (.ok (.rt (.new p), env)) = if isOwn args = true then (match get env 0 with | some c => if isFz c = true then .stuck else .ok (.new p) (some c) | none => .stuck) else .ok (.new p) none := fun _ _ _ => rfl
theorem ed_ex : ∀ args C fs env, endDef args (.exc C fs env) = .exc C fs := fun _ _ _ _ => rfl
theorem rd_eq : ∀ F d args, runD F d args = if args.length = d.np ∧ d.np ≤ d.ns then endDef args (evSs F d.body (env0 d args)) else .stuck := fun _ _ _ => rfl
theorem e0_eq : ∀ d args, env0 d args = args.map (fun a => some (cellOf a)) ++ List.replicate (d.ns - d.np) none := fun _ _ => rfl
theorem co_v : ∀ p, cellOf (.val p) = .fz p := fun _ => rfl
theorem co_o : ∀ p, cellOf (.own p) = p := fun _ => rfl
theorem lend_l : ∀ env i, lend env i = match get env i with
  | some (.fz _) => .stuck
  | some c => .ok c
  | none => .stuck := fun _ _ => rfl
theorem sem_fn : ∀ (P : Prog) n, (P.sem n).fn = evF P n := fun _ _ => rfl
theorem sem_con : ∀ (P : Prog) n, (P.sem n).con = P.con := fun _ _ => rfl
theorem sem_sub : ∀ (P : Prog) n, (P.sem n).sub = P.sub := fun _ _ => rfl
theorem sem_cls : ∀ (P : Prog) n, (P.sem n).cls = P.cls := fun _ _ => rfl
theorem li_len0 {α : Type} : ([] : List α).length = 0 := rfl
theorem li_len {α : Type} (a : α) (l : List α) : (a :: l).length = l.length + 1 := rfl
theorem li_rep0 {α : Type} (a : α) : List.replicate 0 a = [] := rfl
theorem li_repS {α : Type} (a : α) (n : Nat) : List.replicate (n + 1) a = a :: List.replicate n a := rfl
theorem li_app0 {α : Type} (l : List α) : [] ++ l = l := rfl
theorem li_appc {α : Type} (a : α) (l m : List α) : (a :: l) ++ m = a :: (l ++ m) := rfl
theorem li_map0 {α β : Type} (f : α → β) : [].map f = [] := rfl
theorem li_mapc {α β : Type} (f : α → β) (a : α) (l : List α) : (a :: l).map f = f a :: l.map f := rfl
theorem op_mapS {α β : Type} (f : α → β) (a : α) : (some a).map f = some (f a) := rfl
theorem RV0 : type_of% @tr_non ∧ type_of% @tr_bl ∧ type_of% @tr_int ∧ type_of% @tr_tup ∧ type_of% @tr_lst ∧ type_of% @ln_tup ∧ type_of% @ln_lst ∧ type_of% @ln_scr ∧ type_of% @cp_lt ∧ type_of% @cp_le ∧ type_of% @cp_gt ∧ type_of% @cp_ge ∧ type_of% @cp_eqi ∧ type_of% @cp_nei ∧ type_of% @cp_eqb ∧ type_of% @cp_neb ∧ type_of% @cp_isb ∧ type_of% @cp_isnb ∧ type_of% @is_non ∧ type_of% @isn_non ∧ type_of% @ii_non_int ∧ type_of% @ii_non_bool ∧ type_of% @ii_non_str ∧ type_of% @ii_non_tuple ∧ type_of% @ii_non_list ∧ type_of% @ii_non_dict ∧ type_of% @is_bl ∧ type_of% @isn_bl ∧ type_of% @ii_bl_int ∧ type_of% @ii_bl_bool ∧ type_of% @ii_bl_str ∧ type_of% @ii_bl_tuple ∧ type_of% @ii_bl_list ∧ type_of% @ii_bl_dict ∧ type_of% @is_int ∧ type_of% @isn_int ∧ type_of% @ii_int_int ∧ type_of% @ii_int_bool ∧ type_of% @ii_int_str ∧ type_of% @ii_int_tuple :=
  ⟨@tr_non, @tr_bl, @tr_int, @tr_tup, @tr_lst, @ln_tup, @ln_lst, @ln_scr, @cp_lt, @cp_le, @cp_gt, @cp_ge, @cp_eqi, @cp_nei, @cp_eqb, @cp_neb, @cp_isb, @cp_isnb, @is_non, @isn_non, @ii_non_int, @ii_non_bool, @ii_non_str, @ii_non_tuple, @ii_non_list, @ii_non_dict, @is_bl, @isn_bl, @ii_bl_int, @ii_bl_bool, @ii_bl_str, @ii_bl_tuple, @ii_bl_list, @ii_bl_dict, @is_int, @isn_int, @ii_int_int, @ii_int_bool, @ii_int_str, @ii_int_tuple⟩
theorem RV1 : type_of% @ii_int_list ∧ type_of% @ii_int_dict ∧ type_of% @is_str ∧ type_of% @isn_str ∧ type_of% @ii_str_int ∧ type_of% @ii_str_bool ∧ type_of% @ii_str_str ∧ type_of% @ii_str_tuple ∧ type_of% @ii_str_list ∧ type_of% @ii_str_dict ∧ type_of% @is_tup ∧ type_of% @isn_tup ∧ type_of% @ii_tup_int ∧ type_of% @ii_tup_bool ∧ type_of% @ii_tup_str ∧ type_of% @ii_tup_tuple ∧ type_of% @ii_tup_list ∧ type_of% @ii_tup_dict ∧ type_of% @is_lst ∧ type_of% @isn_lst ∧ type_of% @ii_lst_int ∧ type_of% @ii_lst_bool ∧ type_of% @ii_lst_str ∧ type_of% @ii_lst_tuple ∧ type_of% @ii_lst_list ∧ type_of% @ii_lst_dict ∧ type_of% @bo_add ∧ type_of% @bo_sub ∧ type_of% @bo_mul ∧ type_of% @bo_mod ∧ type_of% @bo_fdiv ∧ type_of% @bo_addt ∧ type_of% @bo_addl ∧ type_of% @ix_tup ∧ type_of% @ix_lst ∧ type_of% @it_tup ∧ type_of% @it_lst ∧ type_of% @it_scr ∧ type_of% @io_add ∧ type_of% @io_sub :=
  ⟨@ii_int_list, @ii_int_dict, @is_str, @isn_str, @ii_str_int, @ii_str_bool, @ii_str_str, @ii_str_tuple, @ii_str_list, @ii_str_dict, @is_tup, @isn_tup, @ii_tup_int, @ii_tup_bool, @ii_tup_str, @ii_tup_tuple, @ii_tup_list, @ii_tup_dict, @is_lst, @isn_lst, @ii_lst_int, @ii_lst_bool, @ii_lst_str, @ii_lst_tuple, @ii_lst_list, @ii_lst_dict, @bo_add, @bo_sub, @bo_mul, @bo_mod, @bo_fdiv, @bo_addt, @bo_addl, @ix_tup, @ix_lst, @it_tup, @it_lst, @it_scr, @io_add, @io_sub⟩
theorem RV2 : type_of% @its_eq ∧ type_of% @it_val ∧ type_of% @it_newL ∧ type_of% @it_loc ∧ type_of% @tru_eq ∧ type_of% @rng_eq ∧ type_of% @zip_eq ∧ type_of% @enu_eq ∧ type_of% @isf_fz ∧ type_of% @isf_lst ∧ type_of% @io_val ∧ type_of% @io_own ∧ type_of% @io_nil ∧ type_of% @ed_nx ∧ type_of% @ed_rv ∧ type_of% @ed_rn ∧ type_of% @ed_ex ∧ type_of% @rd_eq ∧ type_of% @e0_eq ∧ type_of% @co_v ∧ type_of% @co_o ∧ type_of% @lend_l ∧ type_of% @sem_fn ∧ type_of% @sem_con ∧ type_of% @sem_sub ∧ type_of% @sem_cls ∧ type_of% @li_len0 ∧ type_of% @li_len ∧ type_of% @li_rep0 ∧ type_of% @li_repS ∧ type_of% @li_app0 ∧ type_of% @li_appc ∧ type_of% @li_map0 ∧ type_of% @li_mapc ∧ type_of% @op_mapS ∧ type_of% @Bool.not_true ∧ type_of% @Bool.not_false ∧ type_of% @Bool.true_and ∧ type_of% @Bool.false_and ∧ type_of% @Bool.and_true ∧ type_of% @Bool.and_false :=
  ⟨@its_eq, @it_val, @it_newL, @it_loc, @tru_eq, @rng_eq, @zip_eq, @enu_eq, @isf_fz, @isf_lst, @io_val, @io_own, @io_nil, @ed_nx, @ed_rv, @ed_rn, @ed_ex, @rd_eq, @e0_eq, @co_v, @co_o, @lend_l, @sem_fn, @sem_con, @sem_sub, @sem_cls, @li_len0, @li_len, @li_rep0, @li_repS, @li_app0, @li_appc, @li_map0, @li_mapc, @op_mapS, @Bool.not_true, @Bool.not_false, @Bool.true_and, @Bool.false_and, @Bool.and_true, @Bool.and_false⟩
/-- all of a run -/
theorem RU : type_of% @EVA ∧ type_of% @EP ∧ type_of% @RV0 ∧ type_of% @RV1 ∧ type_of% @RV2 :=
  ⟨@EVA, @EP, @RV0, @RV1, @RV2⟩
end PL
set_option Elab.async false
set_option linter.all false
set_option maxRecDepth 100000
set_option maxHeartbeats 4000000
namespace PL
open PySem PySem.Spec PyProof.Rows L2
/-! ### what each law's own helpers do -/
def h_draw : Def := ⟨2, 4, (.cons (.ite (.and (.cmp .eq (.ix (.var 0) (.con (.int (2)))) (.con (.int (0)))) (.cmp .lt (.ix (.var 0) (.con (.int (1)))) (.blt "len" (.cons (.ix (.var 0) (.con (.int (0)))) .nil)))) (.cons (.asg (.nm 2) (.ix (.ix (.var 0) (.con (.int (0)))) (.ix (.var 0) (.con (.int (1))))))
  (.cons (.asg (.ix (.var 0) (.con (.int (1)))) (.bop .add (.ix (.var 0) (.con (.int (1)))) (.con (.int (1)))))
  (.cons (.ite (.cmp .ge (.var 2) (.bop .pow (.con (.int (10))) (.con (.int (18))))) (.cons (.asg (.ix (.var 0) (.con (.int (2)))) (.var 2))
  .nil) .nil)
  (.cons (.asg (.ix (.var 0) (.con (.int (3)))) (.bop .mod (.blt "int" (.cons (.bop .add (.bop .add (.bop .mul (.ix (.var 0) (.con (.int (3)))) (.con (.int (48271)))) (.var 2)) (.con (.int (13)))) .nil)) (.con (.int (2147483647)))))
  .nil)))) .nil)
  (.cons (.ite (.cmp .gt (.ix (.var 0) (.con (.int (2)))) (.con (.int (0)))) (.cons (.asg (.nm 3) (.bop .mod (.blt "int" (.cons (.ix (.var 0) (.con (.int (2)))) .nil)) (.var 1)))
  (.cons (.asg (.ix (.var 0) (.con (.int (2)))) (.bop .fdiv (.ix (.var 0) (.con (.int (2)))) (.var 1)))
  (.cons (.ret (.var 3))
  .nil))) .nil)
  (.cons (.asg (.ix (.var 0) (.con (.int (3)))) (.bop .mod (.blt "int" (.cons (.bop .add (.bop .mul (.ix (.var 0) (.con (.int (3)))) (.con (.int (69621)))) (.con (.int (7)))) .nil)) (.con (.int (2147483629)))))
  (.cons (.ret (.bop .mod (.blt "int" (.cons (.bop .fdiv (.ix (.var 0) (.con (.int (3)))) (.con (.int (11)))) .nil)) (.var 1)))
  .nil))))⟩
def h_same : Def := ⟨2, 3, (.cons (.ite (.or (.blt "isinstance" (.cons (.var 1) (.cons (.con (.ty "tuple")) .nil))) (.blt "isinstance" (.cons (.var 1) (.cons (.con (.ty "list")) .nil)))) (.cons (.ite (.or (.cmp .ne (.blt "isinstance" (.cons (.var 1) (.cons (.con (.ty "tuple")) .nil))) (.blt "isinstance" (.cons (.var 0) (.cons (.con (.ty "tuple")) .nil)))) (.cmp .ne (.blt "isinstance" (.cons (.var 1) (.cons (.con (.ty "list")) .nil))) (.blt "isinstance" (.cons (.var 0) (.cons (.con (.ty "list")) .nil))))) (.cons (.ret (.con (.bl false)))
  .nil) .nil)
  (.cons (.ite (.cmp .ne (.blt "len" (.cons (.var 0) .nil)) (.blt "len" (.cons (.var 1) .nil))) (.cons (.ret (.con (.bl false)))
  .nil) .nil)
  (.cons (.ret (.cmp .eq (.blt "len" (.cons (.lc [2] (.nm 2) (.blt "range" (.cons (.blt "len" (.cons (.var 1) .nil)) .nil)) (.not (.call "_law_same" (.cons (.ix (.var 0) (.var 2)) (.cons (.ix (.var 1) (.var 2)) .nil)))) (.var 2)) .nil)) (.con (.int (0)))))
  .nil))) .nil)
  (.cons (.ite (.blt "isinstance" (.cons (.var 1) (.cons (.con (.ty "str")) .nil))) (.cons (.ret (.and (.blt "isinstance" (.cons (.var 0) (.cons (.con (.ty "str")) .nil))) (.cmp .eq (.var 0) (.var 1))))
  .nil) .nil)
  (.cons (.ite (.cmp .is (.var 1) (.con .non)) (.cons (.ret (.cmp .is (.var 0) (.con .non)))
  .nil) .nil)
  (.cons (.ite (.or (.blt "isinstance" (.cons (.var 1) (.cons (.con (.ty "bool")) .nil))) (.blt "isinstance" (.cons (.var 0) (.cons (.con (.ty "bool")) .nil)))) (.cons (.ret (.and (.blt "isinstance" (.cons (.var 1) (.cons (.con (.ty "bool")) .nil))) (.and (.blt "isinstance" (.cons (.var 0) (.cons (.con (.ty "bool")) .nil))) (.cmp .eq (.var 0) (.var 1)))))
  .nil) .nil)
  (.cons (.ret (.and (.blt "isinstance" (.cons (.var 0) (.cons (.con (.ty "int")) .nil))) (.and (.blt "isinstance" (.cons (.var 1) (.cons (.con (.ty "int")) .nil))) (.cmp .eq (.var 0) (.var 1)))))
  .nil)))))⟩
theorem mulOk_of {i j : Int} (h1 : i.natAbs < 2 ^ 1000) (h2 : j.natAbs < 2 ^ 1000) : mulOk i j = true := by
  unfold mulOk
  rw [decide_eq_true_iff]
  have a : i.natAbs.log2 ≤ 1000 := by
    by_cases z : i.natAbs = 0
    · rw [z]; decide
    · exact Nat.le_of_lt ((Nat.log2_lt z).2 h1)
  have b : j.natAbs.log2 ≤ 1000 := by
    by_cases z : j.natAbs = 0
    · rw [z]; decide
    · exact Nat.le_of_lt ((Nat.log2_lt z).2 h2)
  omega
theorem pyl_of {x y : Int} (h : y.natAbs < 2 ^ 1000) : Builtin.divisionGoesByPylong x y = false := by
  have b : y.natAbs.log2 ≤ 1000 := by
    by_cases z : y.natAbs = 0
    · rw [z]; decide
    · exact Nat.le_of_lt ((Nat.log2_lt z).2 h)
  unfold Builtin.divisionGoesByPylong
  have e : decide ((if (y == 0) = true then 0 else y.natAbs.log2 / 30 + 1) > 300) = false := by
    rw [decide_eq_false_iff_not]
    split <;> omega
  simp only [e, Bool.false_and]
theorem pow_le (a b : Nat) (h : a ≤ 2 ^ 64) : a < 2 ^ 1000 := Nat.lt_of_le_of_lt h (by decide)
theorem sz1 {n : Nat} (h : n ≤ 16000000) : n ≤ sizeLine := by rw [sizeLine_eq]; omega
theorem ix_at {xs : List PV} {j : Nat} {v : PV} (h : xs[j]? = some v) : atI xs (j : Int) = some v := atI_nat h
/-- the state of the draws -/
structure DS where
  xs : List Int
  pos : Nat
  big : Int
  seed : Int
def DS.ok (d : DS) : Prop := d.xs.length ≤ 63 ∧ 0 ≤ d.big ∧ 0 ≤ d.seed ∧ d.seed < 2147483647
def cellD (d : DS) : Cell := .lst [.lst (d.xs.map .int), .int d.pos, .int d.big, .int d.seed]
theorem at0 (a b c d : PV) : atI [a, b, c, d] 0 = some a := rfl
theorem at1 (a b c d : PV) : atI [a, b, c, d] 1 = some b := rfl
theorem at2 (a b c d : PV) : atI [a, b, c, d] 2 = some c := rfl
theorem at3 (a b c d : PV) : atI [a, b, c, d] 3 = some d := rfl
theorem ix4 (i : Int) (n : Nat) (h : ixN 4 i = some n) : ixN 4 i = some n := h
theorem fmod_rng {a b : Int} (h : 0 < b) : 0 ≤ a.fmod b ∧ a.fmod b < b := ⟨Int.fmod_nonneg_of_pos a h, Int.fmod_lt_of_pos a h⟩
theorem pow18 : bopV .pow (.int 10) (.int 18) = some (.sc (.int 1000000000000000000)) := by
  show (if (0 : Int) ≤ 18 ∧ (18 : Int) ≤ 1000000 ∧ (10 : Int).natAbs < 2 ^ 64 then some (VR.sc (.int (10 ^ (18 : Int).toNat))) else none) = _
  rw [if_pos (by decide)]
  rfl
theorem ix40 : ixN 4 0 = some 0 := rfl
theorem ix41 : ixN 4 1 = some 1 := rfl
theorem ix42 : ixN 4 2 = some 2 := rfl
theorem ix43 : ixN 4 3 = some 3 := rfl
theorem ls0 {α : Type} (a b : α) (l : List α) : List.set (a :: l) 0 b = b :: l := rfl
theorem lsS {α : Type} (a b : α) (l : List α) (n : Nat) : List.set (a :: l) (n + 1) b = a :: List.set l n b := rfl
theorem seedOk {a c : Int} (h : 0 ≤ a ∧ a < 2147483647) (hc : c.natAbs < 2 ^ 64) : mulOk a c = true := mulOk_of (pow_le _ 0 (by omega)) (pow_le _ 0 (by omega))
theorem draw_ex (d : DS) (L : Int) (hd : d.ok) (hL : 1 ≤ L ∧ L ≤ 1000000) : ∃ p : Int × DS, (∀ F, runD F h_draw [.own (cellD d), .val (.int L)] = .ok (.val (.int p.1)) (some (cellD p.2))) ∧ 0 ≤ p.1 ∧ p.1 < L ∧ p.2.ok := by
  obtain ⟨h1, h2, h3, h4⟩ := hd
  have hL0 : L ≠ 0 := by omega
  have hLs : L.natAbs < 2 ^ 1000 := pow_le _ 0 (by omega)
  have m1 : mulOk d.seed 48271 = true := seedOk ⟨h3, h4⟩ (by decide)
  -- the end, from any state
  have fin : ∀ (d1 : DS) (o : Option Cell), d1.ok → ∃ p : Int × DS, (∀ F, evSs F (match h_draw.body with | .cons _ r => r | r => r) [some (cellD d1), some (.fz (.int L)), o, none] = .ok (.rt (.val (.int p.1)), [some (cellD p.2), some (.fz (.int L)), o, (if 0 < d1.big then some (.fz (.int p.1)) else none)])) ∧ 0 ≤ p.1 ∧ p.1 < L ∧ p.2.ok := by
    intro d1 o ⟨k1, k2, k3, k4⟩
    by_cases hb : 0 < d1.big
    · refine ⟨(d1.big.fmod L, ⟨d1.xs, d1.pos, d1.big.fdiv L, d1.seed⟩), fun F => ?_, (fmod_rng (by omega)).1, (fmod_rng (by omega)).2, k1, ?_, k3, k4⟩
      · simp only [↓toB, RU, Nat.reduceAdd, Nat.reduceSub, Nat.reduceLT, Nat.reduceLeDiff, Nat.reduceEqDiff, true_and, and_true, if_true, if_false, reduceIte, Bool.false_eq_true, reduceCtorEq, Int.reduceNeg, h_draw, cellD, at0, at1, at2, at3, hb, decide_true, ix40, ix41, ix42, ix43, ls0, lsS, bo_mod _ _ hL0, bo_fdiv _ _ hL0 (pyl_of hLs)]
      · exact Int.fdiv_nonneg k2 (by omega)
    · have m2 : mulOk d1.seed 69621 = true := seedOk ⟨k3, k4⟩ (by decide)
      have rg := fmod_rng (a := d1.seed * 69621 + 7) (b := 2147483629) (by decide)
      refine ⟨((((d1.seed * 69621 + 7).fmod 2147483629).fdiv 11).fmod L, ⟨d1.xs, d1.pos, d1.big, (d1.seed * 69621 + 7).fmod 2147483629⟩), fun F => ?_, (fmod_rng (by omega)).1, (fmod_rng (by omega)).2, k1, k2, rg.1, by show (d1.seed * 69621 + 7).fmod 2147483629 < 2147483647; omega⟩
      simp only [↓toB, RU, Nat.reduceAdd, Nat.reduceSub, Nat.reduceLT, Nat.reduceLeDiff, Nat.reduceEqDiff, true_and, and_true, if_true, if_false, reduceIte, Bool.false_eq_true, reduceCtorEq, Int.reduceNeg, h_draw, cellD, at0, at1, at2, at3, hb, decide_false, ix40, ix41, ix42, ix43, ls0, lsS, bo_mod _ _ hL0, bo_mul _ _ m2, bo_mod _ 2147483629 (by decide), bo_fdiv _ 11 (by decide) (pyl_of (x := (d1.seed * 69621 + 7).fmod 2147483629) (pow_le _ 0 (by decide)))]
  -- the first part: a cell is read, or not
  have fst : ∃ (d1 : DS) (o : Option Cell), d1.ok ∧ ∀ F, evS F (match h_draw.body with | .cons s _ => s | _ => .pass) [some (cellD d), some (.fz (.int L)), none, none] = .ok (.nx, [some (cellD d1), some (.fz (.int L)), o, none]) := by
    by_cases hb : d.big = 0
    · by_cases hp : (d.pos : Int) < (d.xs.length : Int)
      · have hp' : d.pos < d.xs.length := by omega
        have e1 : atI (d.xs.map PV.int) (d.pos : Int) = some (.int d.xs[d.pos]) := ix_at (by rw [List.getElem?_map, List.getElem?_eq_getElem hp']; rfl)
        have rg := fmod_rng (a := d.seed * 48271 + d.xs[d.pos] + 13) (b := 2147483647) (by decide)
        by_cases hx : 1000000000000000000 ≤ d.xs[d.pos]
        · refine ⟨⟨d.xs, d.pos + 1, d.xs[d.pos], (d.seed * 48271 + d.xs[d.pos] + 13).fmod 2147483647⟩, some (.fz (.int d.xs[d.pos])), ⟨h1, by show (0 : Int) ≤ d.xs[d.pos]; omega, rg.1, rg.2⟩, fun F => ?_⟩
          simp only [↓toB, RU, Nat.reduceAdd, Nat.reduceSub, Nat.reduceLT, Nat.reduceLeDiff, Nat.reduceEqDiff, true_and, and_true, if_true, if_false, reduceIte, Bool.false_eq_true, reduceCtorEq, Int.reduceNeg, h_draw, cellD, at0, at1, at2, at3, hb, hp, hx, List.length_map, decide_true, ix40, ix41, ix42, ix43, ls0, lsS, bo_mul _ _ m1, bo_mod _ 2147483647 (by decide), e1, pow18]
          rfl
        · refine ⟨⟨d.xs, d.pos + 1, d.big, (d.seed * 48271 + d.xs[d.pos] + 13).fmod 2147483647⟩, some (.fz (.int d.xs[d.pos])), ⟨h1, h2, rg.1, rg.2⟩, fun F => ?_⟩
          simp only [↓toB, RU, Nat.reduceAdd, Nat.reduceSub, Nat.reduceLT, Nat.reduceLeDiff, Nat.reduceEqDiff, true_and, and_true, if_true, if_false, reduceIte, Bool.false_eq_true, reduceCtorEq, Int.reduceNeg, h_draw, cellD, at0, at1, at2, at3, hb, hp, hx, List.length_map, decide_true, decide_false, ix40, ix41, ix42, ix43, ls0, lsS, bo_mul _ _ m1, bo_mod _ 2147483647 (by decide), e1, pow18]
          rfl
      · refine ⟨d, none, ⟨h1, h2, h3, h4⟩, fun F => ?_⟩
        simp only [↓toB, RU, Nat.reduceAdd, Nat.reduceSub, Nat.reduceLT, Nat.reduceLeDiff, Nat.reduceEqDiff, true_and, and_true, if_true, if_false, reduceIte, Bool.false_eq_true, reduceCtorEq, Int.reduceNeg, h_draw, cellD, at0, at1, at2, at3, hb, hp, List.length_map, decide_true, decide_false]
    · refine ⟨d, none, ⟨h1, h2, h3, h4⟩, fun F => ?_⟩
      simp only [↓toB, RU, Nat.reduceAdd, Nat.reduceSub, Nat.reduceLT, Nat.reduceLeDiff, Nat.reduceEqDiff, true_and, and_true, if_true, if_false, reduceIte, Bool.false_eq_true, reduceCtorEq, Int.reduceNeg, h_draw, cellD, at0, at1, at2, at3, hb, decide_false]
  obtain ⟨d1, o, k1, k2⟩ := fst
  obtain ⟨p, q1, q2, q3, q4⟩ := fin d1 o k1
  refine ⟨p, fun F => ?_, q2, q3, q4⟩
  have e : evSs F h_draw.body [some (cellD d), some (.fz (.int L)), none, none] = .ok (.rt (.val (.int p.1)), [some (cellD p.2), some (.fz (.int L)), o, (if 0 < d1.big then some (.fz (.int p.1)) else none)]) := by
    have := k2 F
    have q1 := q1 F
    show (evS F (match h_draw.body with | .cons s _ => s | _ => .pass) _).bind _ = _
    rw [this]
    exact q1
  rw [rd_eq, if_pos ⟨rfl, by decide⟩, show env0 h_draw [.own (cellD d), .val (.int L)] = [some (cellD d), some (.fz (.int L)), none, none] from rfl, e]
  rfl
open Classical in
noncomputable def drawP (d : DS) (L : Int) : Int × DS := if h : d.ok ∧ 1 ≤ L ∧ L ≤ 1000000 then (draw_ex d L h.1 h.2).choose else (0, d)
noncomputable def drawV (d : DS) (L : Int) : Int := (drawP d L).1
noncomputable def drawS (d : DS) (L : Int) : DS := (drawP d L).2
theorem draw_run (F : Sem) {d : DS} {L : Int} (hd : d.ok) (hL : 1 ≤ L ∧ L ≤ 1000000) : runD F h_draw [.own (cellD d), .val (.int L)] = .ok (.val (.int (drawV d L))) (some (cellD (drawS d L))) := by
  unfold drawV drawS drawP
  rw [dif_pos ⟨hd, hL⟩]
  exact (draw_ex d L hd hL).choose_spec.1 F
theorem draw_rng {d : DS} {L : Int} (hd : d.ok) (hL : 1 ≤ L ∧ L ≤ 1000000) : 0 ≤ drawV d L ∧ drawV d L < L := by
  unfold drawV drawP
  rw [dif_pos ⟨hd, hL⟩]
  have := (draw_ex d L hd hL).choose_spec
  exact ⟨this.2.1, this.2.2.1⟩
theorem draw_ok {d : DS} {L : Int} (hd : d.ok) (hL : 1 ≤ L ∧ L ≤ 1000000) : (drawS d L).ok := by
  unfold drawS drawP
  rw [dif_pos ⟨hd, hL⟩]
  exact (draw_ex d L hd hL).choose_spec.2.2.2
theorem rangeP_map : ∀ (n : Nat) (lo : Int), rangeP lo n = (List.range n).map fun (k : Nat) => PV.int (lo + (k : Int))
  | 0, _ => rfl
  | n + 1, lo => by
    show PV.int lo :: rangeP (lo + 1) n = _
    rw [rangeP_map n, List.range_succ_eq_map, List.map_cons, List.map_map]
    congr 1
    · simp
    · apply List.map_congr_left
      intro k _
      show PV.int (lo + 1 + (k : Int)) = PV.int (lo + ((k + 1 : Nat) : Int))
      congr 1
      push_cast
      omega
theorem range0 (n : Nat) : rangeP 0 n = (List.range n).map fun (k : Nat) => PV.int (k : Int) := by
  rw [rangeP_map]
  apply List.map_congr_left
  intro k _
  rw [Int.zero_add]
theorem bnd_of {n : Nat} (h : n ≤ 1000000) : bnd (n : Int) := by
  unfold bnd
  constructor <;> omega
theorem rngN (n : Nat) (env : Env) (h : n ≤ 1000000) : rngB ([.val (.int (n : Int))], env) = .ok (((List.range n).map fun (k : Nat) => PV.int (k : Int), .val .non), env) := by
  show (if bnd (n : Int) ∧ ((n : Int)).toNat ≤ sizeLine then Res.ok ((rangeP 0 ((n : Int)).toNat, RV.val .non), env) else .stuck) = _
  rw [if_pos ⟨bnd_of h, by rw [Int.toNat_natCast]; exact sz1 (by omega)⟩, Int.toNat_natCast, range0]
theorem rngNN (m n : Nat) (env : Env) (hm : m ≤ 1000000) (h : n ≤ 1000000) : rngB ([.val (.int (m : Int)), .val (.int (n : Int))], env) = .ok (((List.range (n - m)).map fun (k : Nat) => PV.int ((m + k : Nat) : Int), .val .non), env) := by
  have e : ((n : Int) - (m : Int)).toNat = n - m := by omega
  show (if bnd (m : Int) ∧ bnd (n : Int) ∧ ((n : Int) - (m : Int)).toNat ≤ sizeLine then Res.ok ((rangeP (m : Int) ((n : Int) - (m : Int)).toNat, RV.val .non), env) else .stuck) = _
  rw [if_pos ⟨bnd_of hm, bnd_of h, by rw [e]; exact sz1 (by omega)⟩, e, rangeP_map]
  congr 2
/-- values that may be compared by _law_same, d deep -/
def deep : Nat → PV → Prop
  | 0, _ => False
  | d + 1, p => match p with
    | .int _ => True
    | .bl _ => True
    | .non => True
    | .tup xs => xs.length ≤ 1000 ∧ ∀ x ∈ xs, deep d x
    | .lst xs => xs.length ≤ 1000 ∧ ∀ x ∈ xs, deep d x
    | _ => False
theorem len_nil0 {α : Type} : ((([] : List α).length : Nat) : Int) = 0 := rfl
section
variable {Pg : Prog}
theorem same_c (hS : Pg.defs (.fn "_law_same") = some h_same) (n : Nat) (args : List Arg) : evF Pg (n + 1) (.fn "_law_same") args = runD (Pg.sem n) h_same args := by
  show (match Pg.defs (.fn "_law_same") with | some d => runD (Pg.sem n) d args | none => .stuck) = _
  rw [hS]
theorem same_ok (hS : Pg.defs (.fn "_law_same") = some h_same) : ∀ (d : Nat) (p : PV), deep d p → ∀ n, evF Pg (n + d) (.fn "_law_same") [.val p, .val p] = .ok (.val (.bl true)) none
  | 0, _, h, _ => False.elim h
  | d + 1, p, h, n => by
    show evF Pg (n + d + 1) _ _ = _
    rw [same_c hS]
    cases p with
    | int i => simp only [↓toB, RU, Nat.reduceAdd, Nat.reduceSub, Nat.reduceLT, Nat.reduceLeDiff, Nat.reduceEqDiff, true_and, and_true, if_true, if_false, reduceIte, Bool.false_eq_true, reduceCtorEq, Int.reduceNeg, h_same, decide_true]
    | bl i => simp only [↓toB, RU, Nat.reduceAdd, Nat.reduceSub, Nat.reduceLT, Nat.reduceLeDiff, Nat.reduceEqDiff, true_and, and_true, if_true, if_false, reduceIte, Bool.false_eq_true, reduceCtorEq, Int.reduceNeg, h_same, decide_true]
    | non => simp only [↓toB, RU, Nat.reduceAdd, Nat.reduceSub, Nat.reduceLT, Nat.reduceLeDiff, Nat.reduceEqDiff, true_and, and_true, if_true, if_false, reduceIte, Bool.false_eq_true, reduceCtorEq, Int.reduceNeg, h_same, decide_true]
    | tup xs =>
      obtain ⟨h1, h2⟩ := h
      have b := fun env => rngN xs.length env (by omega)
      simp only [↓toB, RU, Nat.reduceAdd, Nat.reduceSub, Nat.reduceLT, Nat.reduceLeDiff, Nat.reduceEqDiff, true_and, and_true, if_true, if_false, reduceIte, Bool.false_eq_true, reduceCtorEq, Int.reduceNeg, h_same, decide_true, decide_false, v_lc, b]
      rw [lcGo_filter (φ := fun k : Nat => PV.int (k : Int)) (p := fun _ => false) (g := fun k => .int k) (List.range xs.length) []]
      · have e : (List.range xs.length).filter (fun _ => false) = [] := List.filter_eq_nil_iff.mpr (by simp)
        simp only [↓toB, RU, Nat.reduceAdd, Nat.reduceSub, Nat.reduceLT, Nat.reduceLeDiff, Nat.reduceEqDiff, true_and, and_true, if_true, if_false, reduceIte, Bool.false_eq_true, reduceCtorEq, Int.reduceNeg, e]
        rfl
      · intro k hk
        have hk : k < xs.length := List.mem_range.mp hk
        have e := ix_at (List.getElem?_eq_getElem hk)
        have ih := same_ok hS d xs[k] (h2 _ (List.getElem_mem hk)) n
        simp only [lcTurn, ↓toB, RU, Nat.reduceAdd, Nat.reduceSub, Nat.reduceLT, Nat.reduceLeDiff, Nat.reduceEqDiff, true_and, and_true, if_true, if_false, reduceIte, Bool.false_eq_true, reduceCtorEq, Int.reduceNeg, e, ih]
    | lst xs =>
      obtain ⟨h1, h2⟩ := h
      have b := fun env => rngN xs.length env (by omega)
      simp only [↓toB, RU, Nat.reduceAdd, Nat.reduceSub, Nat.reduceLT, Nat.reduceLeDiff, Nat.reduceEqDiff, true_and, and_true, if_true, if_false, reduceIte, Bool.false_eq_true, reduceCtorEq, Int.reduceNeg, h_same, decide_true, decide_false, v_lc, b]
      rw [lcGo_filter (φ := fun k : Nat => PV.int (k : Int)) (p := fun _ => false) (g := fun k => .int k) (List.range xs.length) []]
      · have e : (List.range xs.length).filter (fun _ => false) = [] := List.filter_eq_nil_iff.mpr (by simp)
        simp only [↓toB, RU, Nat.reduceAdd, Nat.reduceSub, Nat.reduceLT, Nat.reduceLeDiff, Nat.reduceEqDiff, true_and, and_true, if_true, if_false, reduceIte, Bool.false_eq_true, reduceCtorEq, Int.reduceNeg, e]
        rfl
      · intro k hk
        have hk : k < xs.length := List.mem_range.mp hk
        have e := ix_at (List.getElem?_eq_getElem hk)
        have ih := same_ok hS d xs[k] (h2 _ (List.getElem_mem hk)) n
        simp only [lcTurn, ↓toB, RU, Nat.reduceAdd, Nat.reduceSub, Nat.reduceLT, Nat.reduceLeDiff, Nat.reduceEqDiff, true_and, and_true, if_true, if_false, reduceIte, Bool.false_eq_true, reduceCtorEq, Int.reduceNeg, e, ih]
    | str _ => exact False.elim h
    | ty _ => exact False.elim h
    | scr _ => exact False.elim h
    | obj _ _ => exact False.elim h
    | dct _ _ => exact False.elim h
    | dcl _ => exact False.elim h
end
end PL
namespace PL
open PySem PySem.Spec PyProof.Rows L2
def cfg : Cfg := { fns := ["is_whole", "look_at_ruler", "joints_of", "is_folds", "folded_length", "reachable", "folds_within", "least_room", "_law_draws", "_law_draw", "_law_same", "_law_all", "_law_length", "_law_refused", "law"], lent := ["_law_draw"], excs := ["FrameError"], wds := ["Refused"], xcs := ["FrameError", "Refused"], lns := [], dts := [], frs := [], lks := [], dfs := [], flds := [], cls := [], mets := [] }
def topS (i : Nat) : Stmt := PySem.Challenge.pw_frameshold_k72_whole_folded_rulers.main.body.getD i (.Pass ⟨0, 0, 0, 0⟩)
def inS (i j : Nat) : Stmt := match topS i with | .ClassDef _ _ _ body _ _ _ _ _ _ _ => body.getD j (.Pass ⟨0, 0, 0, 0⟩) | s => s
def d_is_whole : Def := ⟨1, 1, (.cons (.ret (.and (.blt "isinstance" (.cons (.var 0) (.cons (.con (.ty "int")) .nil))) (.not (.blt "isinstance" (.cons (.var 0) (.cons (.con (.ty "bool")) .nil))))))
  .nil)⟩
def d_look_at_ruler : Def := ⟨1, 2, (.cons (.ite (.or (.not (.blt "isinstance" (.cons (.var 0) (.cons (.con (.ty "tuple")) .nil)))) (.not (.chn .lt .le (.con (.int (0))) (.blt "len" (.cons (.var 0) .nil)) (.con (.int (40)))))) (.cons (.raw "Refused" (.cons (.con (.str "ruler")) .nil))
  .nil) .nil)
  (.cons (.ite (.not (.blt "all" (.cons (.lc [1] (.nm 1) (.var 0) (.con (.bl true)) (.and (.call "is_whole" (.cons (.var 1) .nil)) (.cmp .gt (.var 1) (.con (.int (0)))))) .nil))) (.cons (.raw "Refused" (.cons (.con (.str "ruler")) .nil))
  .nil) .nil)
  .nil))⟩
def d_joints_of : Def := ⟨2, 5, (.cons (.asg (.nm 2) (.lst (.cons (.con (.int (0))) .nil)))
  (.cons (.forr (.tup (.cons (.nm 3) (.cons (.nm 4) .nil))) (.blt "zip" (.cons (.var 0) (.cons (.var 1) .nil))) (.cons (.expr (.mth "append" (.var 2) (.cons (.bop .add (.ix (.var 2) (.neg (.con (.int (1))))) (.bop .mul (.var 4) (.var 3))) .nil)))
  .nil))
  (.cons (.ret (.blt "tuple" (.cons (.var 2) .nil)))
  .nil)))⟩
def d_is_folds : Def := ⟨2, 3, (.cons (.ite (.or (.not (.blt "isinstance" (.cons (.var 1) (.cons (.con (.ty "tuple")) .nil)))) (.cmp .ne (.blt "len" (.cons (.var 1) .nil)) (.blt "len" (.cons (.var 0) .nil)))) (.cons (.ret (.con (.bl false)))
  .nil) .nil)
  (.cons (.ret (.blt "all" (.cons (.lc [2] (.nm 2) (.var 1) (.con (.bl true)) (.and (.call "is_whole" (.cons (.var 2) .nil)) (.cmp .mem (.var 2) (.tup (.cons (.con (.int (1))) (.cons (.neg (.con (.int (1)))) .nil)))))) .nil)))
  .nil))⟩
def d_folded_length : Def := ⟨2, 3, (.cons (.asg (.nm 2) (.call "joints_of" (.cons (.var 0) (.cons (.var 1) .nil))))
  (.cons (.ret (.bop .sub (.blt "max" (.cons (.var 2) .nil)) (.blt "min" (.cons (.var 2) .nil))))
  .nil))⟩
def d_reachable : Def := ⟨2, 6, (.cons (.asg (.nm 2) (.lst (.cons (.seq "tuple" (.blt "range" (.cons (.bop .add (.var 1) (.con (.int (1)))) .nil))) .nil)))
  (.cons (.forr (.nm 3) (.frz (.var 0)) (.cons (.asg (.nm 4) (.dnew false))
  (.cons (.forr (.nm 5) (.frz (.ix (.var 2) (.neg (.con (.int (1)))))) (.cons (.ite (.cmp .le (.bop .add (.var 5) (.var 3)) (.var 1)) (.cons (.asg (.ix (.var 4) (.bop .add (.var 5) (.var 3))) (.con (.bl true)))
  .nil) .nil)
  (.cons (.ite (.cmp .ge (.bop .sub (.var 5) (.var 3)) (.con (.int (0)))) (.cons (.asg (.ix (.var 4) (.bop .sub (.var 5) (.var 3))) (.con (.bl true)))
  .nil) .nil)
  .nil)))
  (.cons (.expr (.mth "append" (.var 2) (.cons (.blt "tuple" (.cons (.blt "sorted" (.cons (.var 4) .nil)) .nil)) .nil)))
  .nil))))
  (.cons (.ret (.var 2))
  .nil)))⟩
def d_folds_within : Def := ⟨2, 7, (.cons (.expr (.call "look_at_ruler" (.cons (.var 0) .nil)))
  (.cons (.ite (.or (.not (.call "is_whole" (.cons (.var 1) .nil))) (.or (.cmp .lt (.var 1) (.con (.int (0)))) (.cmp .gt (.bop .mul (.bop .add (.var 1) (.con (.int (1)))) (.blt "len" (.cons (.var 0) .nil))) (.gco "MOST_WORK")))) (.cons (.raw "Refused" (.cons (.con (.str "room")) .nil))
  .nil) .nil)
  (.cons (.asg (.nm 2) (.call "reachable" (.cons (.var 0) (.cons (.var 1) .nil))))
  (.cons (.ite (.cmp .eq (.blt "len" (.cons (.ix (.var 2) (.neg (.con (.int (1))))) .nil)) (.con (.int (0)))) (.cons (.ret (.con .non))
  .nil) .nil)
  (.cons (.asg (.nm 3) (.ix (.ix (.var 2) (.neg (.con (.int (1))))) (.con (.int (0)))))
  (.cons (.asg (.nm 4) (.lst .nil))
  (.cons (.forr (.nm 5) (.blt "range" (.cons (.bop .sub (.blt "len" (.cons (.var 0) .nil)) (.con (.int (1)))) (.cons (.neg (.con (.int (1)))) (.cons (.neg (.con (.int (1)))) .nil)))) (.cons (.asg (.nm 6) (.ite (.cmp .mem (.bop .sub (.var 3) (.ix (.var 0) (.var 5))) (.ix (.var 2) (.var 5))) (.con (.int (1))) (.neg (.con (.int (1))))))
  (.cons (.expr (.mth "append" (.var 4) (.cons (.var 6) .nil)))
  (.cons (.asg (.nm 3) (.bop .sub (.var 3) (.bop .mul (.var 6) (.ix (.var 0) (.var 5)))))
  .nil))))
  (.cons (.ret (.blt "tuple" (.cons (.rev (.var 4)) .nil)))
  .nil))))))))⟩
def d_least_room : Def := ⟨1, 3, (.cons (.expr (.call "look_at_ruler" (.cons (.var 0) .nil)))
  (.cons (.forr (.nm 1) (.blt "range" (.cons (.blt "max" (.cons (.var 0) .nil)) (.cons (.bop .mul (.con (.int (2))) (.blt "max" (.cons (.var 0) .nil))) .nil))) (.cons (.asg (.nm 2) (.call "folds_within" (.cons (.var 0) (.cons (.var 1) .nil))))
  (.cons (.ite (.cmp .isn (.var 2) (.con .non)) (.cons (.ret (.tup (.cons (.var 1) (.cons (.var 2) .nil))))
  .nil) .nil)
  .nil)))
  (.cons (.ret (.con .non))
  .nil)))⟩
def d__law_draws : Def := ⟨1, 1, (.cons (.ret (.lst (.cons (.blt "list" (.cons (.var 0) .nil)) (.cons (.con (.int (0))) (.cons (.con (.int (0))) (.cons (.con (.int (1))) .nil))))))
  .nil)⟩
def d__law_draw : Def := ⟨2, 4, (.cons (.ite (.and (.cmp .eq (.ix (.var 0) (.con (.int (2)))) (.con (.int (0)))) (.cmp .lt (.ix (.var 0) (.con (.int (1)))) (.blt "len" (.cons (.ix (.var 0) (.con (.int (0)))) .nil)))) (.cons (.asg (.nm 2) (.ix (.ix (.var 0) (.con (.int (0)))) (.ix (.var 0) (.con (.int (1))))))
  (.cons (.asg (.ix (.var 0) (.con (.int (1)))) (.bop .add (.ix (.var 0) (.con (.int (1)))) (.con (.int (1)))))
  (.cons (.ite (.cmp .ge (.var 2) (.bop .pow (.con (.int (10))) (.con (.int (18))))) (.cons (.asg (.ix (.var 0) (.con (.int (2)))) (.var 2))
  .nil) .nil)
  (.cons (.asg (.ix (.var 0) (.con (.int (3)))) (.bop .mod (.blt "int" (.cons (.bop .add (.bop .add (.bop .mul (.ix (.var 0) (.con (.int (3)))) (.con (.int (48271)))) (.var 2)) (.con (.int (13)))) .nil)) (.con (.int (2147483647)))))
  .nil)))) .nil)
  (.cons (.ite (.cmp .gt (.ix (.var 0) (.con (.int (2)))) (.con (.int (0)))) (.cons (.asg (.nm 3) (.bop .mod (.blt "int" (.cons (.ix (.var 0) (.con (.int (2)))) .nil)) (.var 1)))
  (.cons (.asg (.ix (.var 0) (.con (.int (2)))) (.bop .fdiv (.ix (.var 0) (.con (.int (2)))) (.var 1)))
  (.cons (.ret (.var 3))
  .nil))) .nil)
  (.cons (.asg (.ix (.var 0) (.con (.int (3)))) (.bop .mod (.blt "int" (.cons (.bop .add (.bop .mul (.ix (.var 0) (.con (.int (3)))) (.con (.int (69621)))) (.con (.int (7)))) .nil)) (.con (.int (2147483629)))))
  (.cons (.ret (.bop .mod (.blt "int" (.cons (.bop .fdiv (.ix (.var 0) (.con (.int (3)))) (.con (.int (11)))) .nil)) (.var 1)))
  .nil))))⟩
def d__law_same : Def := ⟨2, 3, (.cons (.ite (.or (.blt "isinstance" (.cons (.var 1) (.cons (.con (.ty "tuple")) .nil))) (.blt "isinstance" (.cons (.var 1) (.cons (.con (.ty "list")) .nil)))) (.cons (.ite (.or (.cmp .ne (.blt "isinstance" (.cons (.var 1) (.cons (.con (.ty "tuple")) .nil))) (.blt "isinstance" (.cons (.var 0) (.cons (.con (.ty "tuple")) .nil)))) (.cmp .ne (.blt "isinstance" (.cons (.var 1) (.cons (.con (.ty "list")) .nil))) (.blt "isinstance" (.cons (.var 0) (.cons (.con (.ty "list")) .nil))))) (.cons (.ret (.con (.bl false)))
  .nil) .nil)
  (.cons (.ite (.cmp .ne (.blt "len" (.cons (.var 0) .nil)) (.blt "len" (.cons (.var 1) .nil))) (.cons (.ret (.con (.bl false)))
  .nil) .nil)
  (.cons (.ret (.cmp .eq (.blt "len" (.cons (.lc [2] (.nm 2) (.blt "range" (.cons (.blt "len" (.cons (.var 1) .nil)) .nil)) (.not (.call "_law_same" (.cons (.ix (.var 0) (.var 2)) (.cons (.ix (.var 1) (.var 2)) .nil)))) (.var 2)) .nil)) (.con (.int (0)))))
  .nil))) .nil)
  (.cons (.ite (.blt "isinstance" (.cons (.var 1) (.cons (.con (.ty "str")) .nil))) (.cons (.ret (.and (.blt "isinstance" (.cons (.var 0) (.cons (.con (.ty "str")) .nil))) (.cmp .eq (.var 0) (.var 1))))
  .nil) .nil)
  (.cons (.ite (.cmp .is (.var 1) (.con .non)) (.cons (.ret (.cmp .is (.var 0) (.con .non)))
  .nil) .nil)
  (.cons (.ite (.or (.blt "isinstance" (.cons (.var 1) (.cons (.con (.ty "bool")) .nil))) (.blt "isinstance" (.cons (.var 0) (.cons (.con (.ty "bool")) .nil)))) (.cons (.ret (.and (.blt "isinstance" (.cons (.var 1) (.cons (.con (.ty "bool")) .nil))) (.and (.blt "isinstance" (.cons (.var 0) (.cons (.con (.ty "bool")) .nil))) (.cmp .eq (.var 0) (.var 1)))))
  .nil) .nil)
  (.cons (.ret (.and (.blt "isinstance" (.cons (.var 0) (.cons (.con (.ty "int")) .nil))) (.and (.blt "isinstance" (.cons (.var 1) (.cons (.con (.ty "int")) .nil))) (.cmp .eq (.var 0) (.var 1)))))
  .nil)))))⟩
def d__law_all : Def := ⟨1, 4, (.cons (.asg (.nm 1) (.lst (.cons (.tup .nil) .nil)))
  (.cons (.forr (.nm 2) (.blt "range" (.cons (.var 0) .nil)) (.cons (.asg (.nm 1) (.bop .add (.lc [3] (.nm 3) (.var 1) (.con (.bl true)) (.bop .add (.var 3) (.tup (.cons (.con (.int (1))) .nil)))) (.lc [3] (.nm 3) (.var 1) (.con (.bl true)) (.bop .add (.var 3) (.tup (.cons (.neg (.con (.int (1)))) .nil))))))
  .nil))
  (.cons (.ret (.var 1))
  .nil)))⟩
def d__law_length : Def := ⟨2, 6, (.cons (.asg (.tup (.cons (.nm 3) (.cons (.nm 4) (.cons (.nm 5) .nil)))) (.tup (.cons (.con (.int (0))) (.cons (.con (.int (0))) (.cons (.con (.int (0))) .nil)))))
  (.cons (.forr (.nm 2) (.blt "range" (.cons (.blt "len" (.cons (.var 0) .nil)) .nil)) (.cons (.asg (.nm 3) (.bop .add (.var 3) (.bop .mul (.ix (.var 1) (.var 2)) (.ix (.var 0) (.var 2)))))
  (.cons (.par2 4 5 (.blt "min" (.cons (.var 4) (.cons (.var 3) .nil))) (.blt "max" (.cons (.var 5) (.cons (.var 3) .nil))))
  .nil)))
  (.cons (.ret (.bop .sub (.var 5) (.var 4)))
  .nil)))⟩
def d__law_refused : Def := ⟨2, 3, (.cons (.tri (.cons (.expr (.call "folds_within" (.cons (.var 0) (.cons (.var 1) .nil))))
  .nil) "Refused" (some 2) (.ret (.fld "word")))
  (.cons (.ret (.con .non))
  .nil))⟩
def s_law_1 : S := (.asg (.nm 1) (.call "_law_draws" (.cons (.var 0) .nil)))
def s_law_2_1 : S := (.asg (.nm 3) (.blt "tuple" (.cons (.lc [8] (.nm 8) (.blt "range" (.cons (.bop .add (.con (.int (1))) (.calm "_law_draw" 1 (.cons (.con (.int (8))) .nil))) .nil)) (.con (.bl true)) (.bop .add (.con (.int (1))) (.calm "_law_draw" 1 (.cons (.ix (.lst (.cons (.con (.int (4))) (.cons (.con (.int (12))) .nil))) (.calm "_law_draw" 1 (.cons (.con (.int (2))) .nil))) .nil)))) .nil)))
def s_law_2_2 : S := (.asg (.nm 4) (.call "_law_all" (.cons (.blt "len" (.cons (.var 3) .nil)) .nil)))
def s_law_2_3 : S := (.asg (.nm 5) (.blt "min" (.cons (.lc [12] (.nm 12) (.var 4) (.con (.bl true)) (.call "_law_length" (.cons (.var 3) (.cons (.var 12) .nil)))) .nil)))
def s_law_2_4 : S := (.asg (.tup (.cons (.nm 11) (.cons (.nm 12) .nil))) (.call "least_room" (.cons (.var 3) .nil)))
def s_law_2_5 : S := (.ite (.or (.not (.call "_law_same" (.cons (.var 11) (.cons (.var 5) .nil)))) (.or (.cmp .ge (.var 5) (.bop .mul (.con (.int (2))) (.blt "max" (.cons (.var 3) .nil)))) (.or (.cmp .isn (.call "is_folds" (.cons (.var 3) (.cons (.var 12) .nil))) (.con (.bl true))) (.cmp .gt (.call "_law_length" (.cons (.var 3) (.cons (.var 12) .nil))) (.var 5))))) (.cons (.ret (.con (.bl false)))
  .nil) .nil)
def s_law_2_6 : S := (.asg (.nm 6) (.ix (.var 4) (.calm "_law_draw" 1 (.cons (.blt "len" (.cons (.var 4) .nil)) .nil))))
def s_law_2_7 : S := (.asg (.nm 7) (.lst (.cons (.con (.int (0))) .nil)))
def s_law_2_8_1 : S := (.expr (.mth "append" (.var 7) (.cons (.bop .add (.ix (.var 7) (.var 8)) (.bop .mul (.ix (.var 6) (.var 8)) (.ix (.var 3) (.var 8)))) .nil)))
def s_law_2_8 : S := (.forr (.nm 8) (.blt "range" (.cons (.blt "len" (.cons (.var 3) .nil)) .nil)) (.cons s_law_2_8_1 .nil))
def s_law_2_9 : S := (.ite (.or (.not (.call "_law_same" (.cons (.call "joints_of" (.cons (.var 3) (.cons (.var 6) .nil))) (.cons (.blt "tuple" (.cons (.var 7) .nil)) .nil)))) (.not (.call "_law_same" (.cons (.call "folded_length" (.cons (.var 3) (.cons (.var 6) .nil))) (.cons (.call "_law_length" (.cons (.var 3) (.cons (.var 6) .nil))) .nil))))) (.cons (.ret (.con (.bl false)))
  .nil) .nil)
def s_law_2_10_1 : S := (.asg (.nm 11) (.calm "_law_draw" 1 (.cons (.bop .mul (.con (.int (2))) (.blt "max" (.cons (.var 3) .nil))) .nil)))
def s_law_2_10_2 : S := (.asg (.nm 13) (.call "folds_within" (.cons (.var 3) (.cons (.var 11) .nil))))
def s_law_2_10_3 : S := (.ite (.or (.cmp .ne (.cmp .is (.var 13) (.con .non)) (.cmp .lt (.var 11) (.var 5))) (.and (.cmp .isn (.var 13) (.con .non)) (.or (.cmp .isn (.call "is_folds" (.cons (.var 3) (.cons (.var 13) .nil))) (.con (.bl true))) (.cmp .gt (.call "_law_length" (.cons (.var 3) (.cons (.var 13) .nil))) (.var 11))))) (.cons (.ret (.con (.bl false)))
  .nil) .nil)
def s_law_2_10 : S := (.forr (.nm 9) (.blt "range" (.cons (.con (.int (4))) .nil)) (.cons s_law_2_10_1 (.cons s_law_2_10_2 (.cons s_law_2_10_3 .nil))))
def s_law_2_11_1 : S := (.ite (.cmp .isn (.call "is_folds" (.cons (.var 3) (.cons (.var 10) .nil))) (.con (.bl false))) (.cons (.ret (.con (.bl false)))
  .nil) .nil)
def s_law_2_11 : S := (.forr (.nm 10) (.frz (.lst (.cons (.con .non) (.cons (.blt "list" (.cons (.var 6) .nil)) (.cons (.bop .add (.var 6) (.tup (.cons (.con (.int (1))) .nil))) (.cons (.bop .add (.sl (.var 6) (.con (.int (1))) (.con .non)) (.tup (.cons (.con (.int (0))) .nil))) (.cons (.bop .add (.sl (.var 6) (.con (.int (1))) (.con .non)) (.tup (.cons (.con (.bl true)) .nil))) .nil))))))) (.cons s_law_2_11_1 .nil))
def s_law_2_12 : S := (.ite (.or (.cmp .ne (.call "_law_refused" (.cons (.var 3) (.cons (.neg (.con (.int (1)))) .nil))) (.con (.str "room"))) (.or (.cmp .ne (.call "_law_refused" (.cons (.var 3) (.cons (.con (.str "x")) .nil))) (.con (.str "room"))) (.or (.cmp .ne (.call "_law_refused" (.cons (.tup .nil) (.cons (.con (.int (3))) .nil))) (.con (.str "ruler"))) (.cmp .ne (.call "_law_refused" (.cons (.tup (.cons (.con (.int (0))) .nil)) (.cons (.con (.int (3))) .nil))) (.con (.str "ruler")))))) (.cons (.ret (.con (.bl false)))
  .nil) .nil)
def s_law_2_13 : S := (.ite (.or (.cmp .ne (.call "_law_refused" (.cons (.lst (.cons (.con (.int (1))) .nil)) (.cons (.con (.int (3))) .nil))) (.con (.str "ruler"))) (.cmp .ne (.call "_law_refused" (.cons (.bop .mul (.tup (.cons (.con (.int (1))) .nil)) (.con (.int (41)))) (.cons (.con (.int (3))) .nil))) (.con (.str "ruler")))) (.cons (.ret (.con (.bl false)))
  .nil) .nil)
def s_law_2 : S := (.forr (.nm 2) (.blt "range" (.cons (.con (.int (4))) .nil)) (.cons s_law_2_1 (.cons s_law_2_2 (.cons s_law_2_3 (.cons s_law_2_4 (.cons s_law_2_5 (.cons s_law_2_6 (.cons s_law_2_7 (.cons s_law_2_8 (.cons s_law_2_9 (.cons s_law_2_10 (.cons s_law_2_11 (.cons s_law_2_12 (.cons s_law_2_13 .nil))))))))))))))
def s_law_3 : S := (.ret (.con (.bl true)))
def d_law : Def := ⟨1, 14, (.cons s_law_1 (.cons s_law_2 (.cons s_law_3 .nil)))⟩
def defsOf (x : Str) : Option Def :=
  if x == ("is_whole" : Str) then some d_is_whole else if x == ("look_at_ruler" : Str) then some d_look_at_ruler else if x == ("joints_of" : Str) then some d_joints_of else if x == ("is_folds" : Str) then some d_is_folds else if x == ("folded_length" : Str) then some d_folded_length else if x == ("reachable" : Str) then some d_reachable else if x == ("folds_within" : Str) then some d_folds_within else if x == ("least_room" : Str) then some d_least_room else if x == ("_law_draws" : Str) then some d__law_draws else if x == ("_law_draw" : Str) then some d__law_draw else if x == ("_law_same" : Str) then some d__law_same else if x == ("_law_all" : Str) then some d__law_all else if x == ("_law_length" : Str) then some d__law_length else if x == ("_law_refused" : Str) then some d__law_refused else if x == ("law" : Str) then some d_law else none
def mtsOf (C m : Str) : Option Def :=
  none
def subOf (a b : Str) : Option Bool :=
  if a == ("FrameError" : Str) && b == ("FrameError" : Str) then some true else if a == ("FrameError" : Str) && b == ("Refused" : Str) then some false else if a == ("Refused" : Str) && b == ("FrameError" : Str) then some true else if a == ("Refused" : Str) && b == ("Refused" : Str) then some true else none
def conOf' (x : Str) : Option PV :=
  if x == ("MOST_WORK" : Str) then some (.int 200000) else none
def clsOf (C : Str) : Bool := false
def hasOf (C m : Str) : Bool := false
def pg : Prog := ⟨fun k => match k with | .fn x => defsOf x | .mt C m => mtsOf C m, conOf', subOf, clsOf, hasOf⟩
theorem sc_is_whole : FnScope ["value"] ["value"] (defScope (topS 4)) := ⟨rfl, rfl, rfl, by decide +kernel, rfl, by decide +kernel, by decide +kernel⟩
theorem at_is_whole : pg.defs (.fn "is_whole") = some d_is_whole := by kernel_rfl
theorem tr_is_whole : pg.defs (.fn "is_whole") = some ⟨1, 1, mkSs ((defBody (topS 4)).map (trS ["value"] cfg (defScope (topS 4)) 60))⟩ := by kernel_rfl
theorem sc_look_at_ruler : FnScope ["value", "one"] ["value"] (defScope (topS 7)) := ⟨rfl, rfl, rfl, by decide +kernel, rfl, by decide +kernel, by decide +kernel⟩
theorem at_look_at_ruler : pg.defs (.fn "look_at_ruler") = some d_look_at_ruler := by kernel_rfl
theorem tr_look_at_ruler : pg.defs (.fn "look_at_ruler") = some ⟨1, 2, mkSs ((defBody (topS 7)).map (trS ["value", "one"] cfg (defScope (topS 7)) 60))⟩ := by kernel_rfl
theorem sc_joints_of : FnScope ["ruler", "folds", "found", "link", "side"] ["ruler", "folds"] (defScope (topS 8)) := ⟨rfl, rfl, rfl, by decide +kernel, rfl, by decide +kernel, by decide +kernel⟩
theorem at_joints_of : pg.defs (.fn "joints_of") = some d_joints_of := by kernel_rfl
theorem tr_joints_of : pg.defs (.fn "joints_of") = some ⟨2, 5, mkSs ((defBody (topS 8)).map (trS ["ruler", "folds", "found", "link", "side"] cfg (defScope (topS 8)) 60))⟩ := by kernel_rfl
theorem sc_is_folds : FnScope ["ruler", "value", "one"] ["ruler", "value"] (defScope (topS 9)) := ⟨rfl, rfl, rfl, by decide +kernel, rfl, by decide +kernel, by decide +kernel⟩
theorem at_is_folds : pg.defs (.fn "is_folds") = some d_is_folds := by kernel_rfl
theorem tr_is_folds : pg.defs (.fn "is_folds") = some ⟨2, 3, mkSs ((defBody (topS 9)).map (trS ["ruler", "value", "one"] cfg (defScope (topS 9)) 60))⟩ := by kernel_rfl
theorem sc_folded_length : FnScope ["ruler", "folds", "row"] ["ruler", "folds"] (defScope (topS 10)) := ⟨rfl, rfl, rfl, by decide +kernel, rfl, by decide +kernel, by decide +kernel⟩
theorem at_folded_length : pg.defs (.fn "folded_length") = some d_folded_length := by kernel_rfl
theorem tr_folded_length : pg.defs (.fn "folded_length") = some ⟨2, 3, mkSs ((defBody (topS 10)).map (trS ["ruler", "folds", "row"] cfg (defScope (topS 10)) 60))⟩ := by kernel_rfl
theorem sc_reachable : FnScope ["ruler", "room", "found", "link", "fresh", "place"] ["ruler", "room"] (defScope (topS 11)) := ⟨rfl, rfl, rfl, by decide +kernel, rfl, by decide +kernel, by decide +kernel⟩
theorem at_reachable : pg.defs (.fn "reachable") = some d_reachable := by kernel_rfl
theorem tr_reachable : pg.defs (.fn "reachable") = some ⟨2, 6, mkSs ((defBody (topS 11)).map (trS ["ruler", "room", "found", "link", "fresh", "place"] cfg (defScope (topS 11)) 60))⟩ := by kernel_rfl
theorem sc_folds_within : FnScope ["ruler", "room", "rows", "here", "found", "at", "side"] ["ruler", "room"] (defScope (topS 12)) := ⟨rfl, rfl, rfl, by decide +kernel, rfl, by decide +kernel, by decide +kernel⟩
theorem at_folds_within : pg.defs (.fn "folds_within") = some d_folds_within := by kernel_rfl
theorem tr_folds_within : pg.defs (.fn "folds_within") = some ⟨2, 7, mkSs ((defBody (topS 12)).map (trS ["ruler", "room", "rows", "here", "found", "at", "side"] cfg (defScope (topS 12)) 60))⟩ := by kernel_rfl
theorem sc_least_room : FnScope ["ruler", "room", "told"] ["ruler"] (defScope (topS 13)) := ⟨rfl, rfl, rfl, by decide +kernel, rfl, by decide +kernel, by decide +kernel⟩
theorem at_least_room : pg.defs (.fn "least_room") = some d_least_room := by kernel_rfl
theorem tr_least_room : pg.defs (.fn "least_room") = some ⟨1, 3, mkSs ((defBody (topS 13)).map (trS ["ruler", "room", "told"] cfg (defScope (topS 13)) 60))⟩ := by kernel_rfl
theorem sc__law_draws : FnScope ["script"] ["script"] (defScope (topS 15)) := ⟨rfl, rfl, rfl, by decide +kernel, rfl, by decide +kernel, by decide +kernel⟩
theorem at__law_draws : pg.defs (.fn "_law_draws") = some d__law_draws := by kernel_rfl
theorem tr__law_draws : pg.defs (.fn "_law_draws") = some ⟨1, 1, mkSs ((defBody (topS 15)).map (trS ["script"] cfg (defScope (topS 15)) 60))⟩ := by kernel_rfl
theorem sc__law_draw : FnScope ["draws", "limit", "cell", "value"] ["draws", "limit"] (defScope (topS 16)) := ⟨rfl, rfl, rfl, by decide +kernel, rfl, by decide +kernel, by decide +kernel⟩
theorem at__law_draw : pg.defs (.fn "_law_draw") = some d__law_draw := by kernel_rfl
theorem tr__law_draw : pg.defs (.fn "_law_draw") = some ⟨2, 4, mkSs ((defBody (topS 16)).map (trS ["draws", "limit", "cell", "value"] cfg (defScope (topS 16)) 60))⟩ := by kernel_rfl
theorem sc__law_same : FnScope ["actual", "expected", "k"] ["actual", "expected"] (defScope (topS 17)) := ⟨rfl, rfl, rfl, by decide +kernel, rfl, by decide +kernel, by decide +kernel⟩
theorem at__law_same : pg.defs (.fn "_law_same") = some d__law_same := by kernel_rfl
theorem tr__law_same : pg.defs (.fn "_law_same") = some ⟨2, 3, mkSs ((defBody (topS 17)).map (trS ["actual", "expected", "k"] cfg (defScope (topS 17)) 60))⟩ := by kernel_rfl
theorem sc__law_all : FnScope ["many", "found", "k", "row"] ["many"] (defScope (topS 18)) := ⟨rfl, rfl, rfl, by decide +kernel, rfl, by decide +kernel, by decide +kernel⟩
theorem at__law_all : pg.defs (.fn "_law_all") = some d__law_all := by kernel_rfl
theorem tr__law_all : pg.defs (.fn "_law_all") = some ⟨1, 4, mkSs ((defBody (topS 18)).map (trS ["many", "found", "k", "row"] cfg (defScope (topS 18)) 60))⟩ := by kernel_rfl
theorem sc__law_length : FnScope ["ruler", "folds", "k", "here", "low", "high"] ["ruler", "folds"] (defScope (topS 19)) := ⟨rfl, rfl, rfl, by decide +kernel, rfl, by decide +kernel, by decide +kernel⟩
theorem at__law_length : pg.defs (.fn "_law_length") = some d__law_length := by kernel_rfl
theorem tr__law_length : pg.defs (.fn "_law_length") = some ⟨2, 6, mkSs ((defBody (topS 19)).map (trS ["ruler", "folds", "k", "here", "low", "high"] cfg (defScope (topS 19)) 60))⟩ := by kernel_rfl
theorem sc__law_refused : FnScope ["ruler", "room", "e"] ["ruler", "room"] (defScope (topS 20)) := ⟨rfl, rfl, rfl, by decide +kernel, rfl, by decide +kernel, by decide +kernel⟩
theorem at__law_refused : pg.defs (.fn "_law_refused") = some d__law_refused := by kernel_rfl
theorem tr__law_refused : pg.defs (.fn "_law_refused") = some ⟨2, 3, mkSs ((defBody (topS 20)).map (trS ["ruler", "room", "e"] cfg (defScope (topS 20)) 60))⟩ := by kernel_rfl
theorem sc_law : FnScope ["script", "draws", "turn", "ruler", "every", "due", "drawn", "row", "k", "more", "bad", "room", "folds", "told"] ["script"] (defScope (topS 21)) := ⟨rfl, rfl, rfl, by decide +kernel, rfl, by decide +kernel, by decide +kernel⟩
theorem at_law : pg.defs (.fn "law") = some d_law := by kernel_rfl
theorem tr_law : pg.defs (.fn "law") = some ⟨1, 14, mkSs ((defBody (topS 21)).map (trS ["script", "draws", "turn", "ruler", "every", "due", "drawn", "row", "k", "more", "bad", "room", "folds", "told"] cfg (defScope (topS 21)) 60))⟩ := by kernel_rfl
theorem sub_of {a b : Str} {t : Bool} (h : subOf a b = some t) : (a = "FrameError" ∧ b = "FrameError" ∧ t = true) ∨ (a = "FrameError" ∧ b = "Refused" ∧ t = false) ∨ (a = "Refused" ∧ b = "FrameError" ∧ t = true) ∨ (a = "Refused" ∧ b = "Refused" ∧ t = true) := by
  unfold subOf at h
  repeat' (split at h)
  all_goals first | cases h | skip
  all_goals (rename_i q; have q' := Bool.and_eq_true_iff.mp q; have q1 := eq_of_beq q'.1; have q2 := eq_of_beq q'.2; subst q1; subst q2; first | exact .inl ⟨rfl, rfl, rfl⟩ | exact .inr (.inl ⟨rfl, rfl, rfl⟩) | exact .inr (.inr (.inl ⟨rfl, rfl, rfl⟩)) | exact .inr (.inr (.inr (⟨rfl, rfl, rfl⟩))))
theorem con_of {x : Str} {p : PV} (h : conOf' x = some p) : (x = "MOST_WORK" ∧ p = .int 200000) := by
  unfold conOf' at h
  repeat' (split at h)
  all_goals first | cases h | skip
  all_goals (rename_i q; have q1 := eq_of_beq q; subst q1; first | exact ⟨rfl, rfl⟩)
end PL

set_option Elab.async false
set_option linter.all false
set_option maxRecDepth 100000
set_option maxHeartbeats 2000000
namespace PL
open PySem PySem.Spec PyProof.Rows L2
/-! ### runs: one statement after the other -/
theorem okE {α : Type} {a b : α} (h : a = b) : Res.ok a = Res.ok b := by rw [h]
def Run (F : Sem) (ss : Ss) (w : Env) (Q : Fl → Env → Prop) : Prop := ∃ f w', evSs F ss w = .ok (f, w') ∧ Q f w'
section
variable {F : Sem} {s : S} {ss b : Ss} {w w' w1 : Env} {Q Q' : Fl → Env → Prop}
theorem run_step (h : evS F s w = .ok (.nx, w')) (k : Run F ss w' Q) : Run F (.cons s ss) w Q := by
  obtain ⟨f, w2, e, q⟩ := k
  refine ⟨f, w2, ?_, q⟩
  rw [ss_cons, h]
  exact e
theorem run_nil (q : Q .nx w) : Run F .nil w Q := ⟨.nx, w, by rw [ss_nil], q⟩
theorem run_fin {f : Fl} (h : evS F s w = .ok (f, w')) (hf : f ≠ .nx) (q : Q f w') : Run F (.cons s ss) w Q := by
  refine ⟨f, w', ?_, q⟩
  rw [ss_cons, h, bind_ok]
  cases f with
  | nx => exact absurd rfl hf
  | bk => rfl
  | ct => rfl
  | rt r => rfl
theorem run_ret {r : RV} (h : evS F s w = .ok (.rt r, w')) (q : Q (.rt r) w') : Run F (.cons s ss) w Q := run_fin h (by simp) q
theorem run_mono (h : Run F ss w Q) (m : ∀ f w', Q f w' → Q' f w') : Run F ss w Q' := by
  obtain ⟨f, w2, e, q⟩ := h
  exact ⟨f, w2, e, m _ _ q⟩
def pick (c : Bool) (x y : Ss) : Ss := match c with | true => x | false => y
/-- a statement that runs as a suite -/
theorem run_blk {b : Ss} (h : evS F s w = evSs F b w1) (r : Run F b w1 (fun f w2 => (f = .nx ∧ Run F ss w2 Q) ∨ (f ≠ .nx ∧ Q f w2))) : Run F (.cons s ss) w Q := by
  obtain ⟨f, w2, e, q⟩ := r
  rcases q with ⟨rfl, q⟩ | ⟨hf, q⟩
  · exact run_step (h.trans e) q
  · exact run_fin (h.trans e) hf q
theorem run_if {t : E} {x y : Ss} {c : Bool} (h : (ev F t).t w = .ok (c, w1)) (r : Run F (pick c x y) w1 (fun f w2 => (f = .nx ∧ Run F ss w2 Q) ∨ (f ≠ .nx ∧ Q f w2))) : Run F (.cons (.ite t x y) ss) w Q := by
  refine run_blk ?_ r
  rw [s_ite, h, bind_ok]
  cases c <;> rfl
theorem run_if_no {t : E} {x : Ss} (h : (ev F t).t w = .ok (false, w1)) (k : Run F ss w1 Q) : Run F (.cons (.ite t x .nil) ss) w Q := run_if h (run_nil (.inl ⟨rfl, k⟩))
/-- a loop over typed items; I says what holds behind some of them -/
theorem run_forB {α : Type} {φ : α → PV} {t : Tg} {I : List α → Env → Prop} {R : Fl → Env → Prop} : ∀ {xs pre : List α} {w : Env}, I pre w →
    (∀ pre' x post e, pre ++ xs = pre' ++ x :: post → I pre' e → ∃ e1, evTg F t (φ x) e = .ok e1 ∧ Run F b e1 (fun f e2 => ((f = .nx ∨ f = .ct) ∧ I (pre' ++ [x]) e2) ∨ (f = .bk ∧ R .nx e2) ∨ (∃ r, f = .rt r ∧ R (.rt r) e2))) →
    ∃ f w', forGo (evTg F t) (evSs F b) (xs.map φ) w = .ok (f, w') ∧ ((f = .nx ∧ I (pre ++ xs) w') ∨ R f w')
  | [], pre, w, h0, _ => ⟨.nx, w, rfl, .inl ⟨rfl, by rw [List.append_nil]; exact h0⟩⟩
  | x :: xs, pre, w, h0, hs => by
    obtain ⟨e1, h1, f, e2, h2, h3⟩ := hs pre x xs w rfl h0
    have eq : forGo (evTg F t) (evSs F b) ((x :: xs).map φ) w = (match (generalizing := false) f with
      | .nx => forGo (evTg F t) (evSs F b) (xs.map φ) e2
      | .ct => forGo (evTg F t) (evSs F b) (xs.map φ) e2
      | .bk => .ok (.nx, e2)
      | .rt v => .ok (.rt v, e2)) := by
      show ((evTg F t (φ x) w).bind fun e1 => (evSs F b e1).bind fun r => match r.1 with
        | .nx => forGo (evTg F t) (evSs F b) (xs.map φ) r.2
        | .ct => forGo (evTg F t) (evSs F b) (xs.map φ) r.2
        | .bk => .ok (.nx, r.2)
        | .rt v => .ok (.rt v, r.2)) = _
      rw [h1, bind_ok, h2, bind_ok]
    rcases h3 with ⟨hf, h3⟩ | ⟨rfl, h3⟩ | ⟨r, rfl, h3⟩
    · obtain ⟨f', w', h4, h5⟩ := run_forB (xs := xs) (pre := pre ++ [x]) (w := e2) (R := R) h3 (fun pre' y post e he hp => hs pre' y post e (by rw [← he]; simp) hp)
      refine ⟨f', w', ?_, by rw [List.append_assoc] at h5; exact h5⟩
      rw [eq]
      rcases hf with rfl | rfl <;> exact h4
    · exact ⟨.nx, e2, eq, .inr h3⟩
    · exact ⟨.rt r, e2, eq, .inr h3⟩
theorem run_for {α : Type} {φ : α → PV} {xs : List α} {t : Tg} {it : E} (I : List α → Env → Prop) {p : PV} (hi : (ev F it).i w = .ok ((xs.map φ, .val p), w1)) (h0 : I [] w1)
    (hs : ∀ pre x post e, xs = pre ++ x :: post → I pre e → ∃ e1, evTg F t (φ x) e = .ok e1 ∧ Run F b e1 (fun f e2 => ((f = .nx ∨ f = .ct) ∧ I (pre ++ [x]) e2) ∨ (f = .bk ∧ Run F ss e2 Q) ∨ (∃ r, f = .rt r ∧ Q f e2)))
    (k : ∀ e, I xs e → Run F ss e Q) : Run F (.cons (.forr t it b) ss) w Q := by
  obtain ⟨f, w', h1, h2⟩ := run_forB (F := F) (b := b) (φ := φ) (t := t) (I := I) (R := fun f e => (f = .nx ∧ Run F ss e Q) ∨ (f ≠ .nx ∧ Q f e)) (xs := xs) (pre := []) (w := w1) h0 (fun pre' x post e he hp => by
    obtain ⟨e1, h1, f, e2, h2, h3⟩ := hs pre' x post e he hp
    refine ⟨e1, h1, f, e2, h2, ?_⟩
    rcases h3 with h3 | h3 | ⟨r, rfl, h3⟩
    · exact .inl h3
    · exact .inr (.inl ⟨h3.1, .inl ⟨rfl, h3.2⟩⟩)
    · exact .inr (.inr ⟨r, rfl, .inr ⟨by simp, h3⟩⟩))
  have e : evS F (.forr t it b) w = .ok (f, w') := by
    rw [s_for, hi, bind_ok]
    exact h1
  rcases h2 with ⟨rfl, h2⟩ | ⟨rfl, h2⟩ | ⟨hf, h2⟩
  · exact run_step e (k _ (by simpa using h2))
  · exact run_step e h2
  · exact run_fin e hf h2
/-- .. whose turns do not leave it -/
theorem run_for0 {α : Type} {φ : α → PV} {xs : List α} {t : Tg} {it : E} (I : List α → Env → Prop) {p : PV} (hi : (ev F it).i w = .ok ((xs.map φ, .val p), w1)) (h0 : I [] w1)
    (hs : ∀ pre x post e, xs = pre ++ x :: post → I pre e → ∃ e1, evTg F t (φ x) e = .ok e1 ∧ Run F b e1 (fun f e2 => f = .nx ∧ I (pre ++ [x]) e2))
    (k : ∀ e, I xs e → Run F ss e Q) : Run F (.cons (.forr t it b) ss) w Q :=
  run_for I hi h0 (fun pre x post e he hp => by
    obtain ⟨e1, h1, h2⟩ := hs pre x post e he hp
    exact ⟨e1, h1, run_mono h2 fun f w' q => .inl ⟨.inl q.1, q.2⟩⟩) k
/-- a loop with a test: I n where n goes down -/
theorem run_whlB {t : E} {I : Nat → Env → Prop} {R : Fl → Env → Prop}
    (hs : ∀ n e, I n e → ∃ c e1, (ev F t).t e = .ok (c, e1) ∧ ((c = false ∧ R .nx e1) ∨ (c = true ∧ Run F b e1 (fun f e2 => ((f = .nx ∨ f = .ct) ∧ ∃ m, m < n ∧ I m e2) ∨ (f = .bk ∧ R .nx e2) ∨ (∃ r, f = .rt r ∧ R f e2))))) :
    ∀ (n : Nat) (w : Env), I n w → ∃ f w', whF (ev F t).t (evSs F b) w = .ok (f, w') ∧ R f w' := by
  intro n
  induction n using Nat.strongRecOn with
  | ind n ih =>
    intro w hw
    obtain ⟨c, e1, h1, h2⟩ := hs n w hw
    rw [whF_eq, h1, bind_ok]
    rcases h2 with ⟨rfl, h2⟩ | ⟨rfl, f, e2, h3, h4⟩
    · exact ⟨.nx, e1, rfl, h2⟩
    · dsimp only
      rw [h3, bind_ok]
      rcases h4 with ⟨hf, m, hm, h4⟩ | ⟨rfl, h4⟩ | ⟨r, rfl, h4⟩
      · obtain ⟨f', w', h5, h6⟩ := ih m hm e2 h4
        refine ⟨f', w', ?_, h6⟩
        rcases hf with rfl | rfl <;> exact h5
      · exact ⟨.nx, e2, rfl, h4⟩
      · exact ⟨.rt r, e2, rfl, h4⟩
theorem run_whl {t : E} (I : Nat → Env → Prop) (n : Nat) (h0 : I n w)
    (hs : ∀ n e, I n e → ∃ c e1, (ev F t).t e = .ok (c, e1) ∧ ((c = false ∧ Run F ss e1 Q) ∨ (c = true ∧ Run F b e1 (fun f e2 => ((f = .nx ∨ f = .ct) ∧ ∃ m, m < n ∧ I m e2) ∨ (f = .bk ∧ Run F ss e2 Q) ∨ (∃ r, f = .rt r ∧ Q f e2))))) : Run F (.cons (.whl t b) ss) w Q := by
  obtain ⟨f, w', h1, h2⟩ := run_whlB (F := F) (b := b) (t := t) (I := I) (R := fun f e => (f = .nx ∧ Run F ss e Q) ∨ (f ≠ .nx ∧ Q f e)) (fun n e he => by
    obtain ⟨c, e1, h1, h2⟩ := hs n e he
    refine ⟨c, e1, h1, ?_⟩
    rcases h2 with h2 | ⟨hc, f, e2, h3, h4⟩
    · exact .inl ⟨h2.1, .inl ⟨rfl, h2.2⟩⟩
    · refine .inr ⟨hc, f, e2, h3, ?_⟩
      rcases h4 with h4 | h4 | ⟨r, rfl, h4⟩
      · exact .inl h4
      · exact .inr (.inl ⟨h4.1, .inl ⟨rfl, h4.2⟩⟩)
      · exact .inr (.inr ⟨r, rfl, .inr ⟨by simp, h4⟩⟩)) n w h0
  have e : evS F (.whl t b) w = .ok (f, w') := by rw [s_whl]; exact h1
  rcases h2 with ⟨rfl, h2⟩ | ⟨hf, h2⟩
  · exact run_step e h2
  · exact run_fin e hf h2
theorem ss_one (h : evSs F (.cons s .nil) w = .ok (.nx, w')) : evS F s w = .ok (.nx, w') := by
  rw [ss_cons] at h
  cases h1 : evS F s w with
  | stuck => rw [h1] at h; cases h
  | exc C fs e => rw [h1] at h; cases h
  | ok r =>
    obtain ⟨f, w2⟩ := r
    rw [h1, bind_ok] at h
    cases f with
    | nx => rw [ss_nil] at h; exact h
    | bk => cases h
    | ct => cases h
    | rt r => cases h
/-- one statement by its own run -/
theorem run_one (h : Run F (.cons s .nil) w (fun f w2 => f = .nx ∧ Run F ss w2 Q)) : Run F (.cons s ss) w Q := by
  obtain ⟨f, w2, e, rfl, k⟩ := h
  exact run_step (ss_one e) k
/-! what a def gives -/
theorem fn_run {d : Def} {args : List Arg} {P : FRes → Prop} (hl : args.length = d.np ∧ d.np ≤ d.ns) (h : Run F d.body (env0 d args) (fun f w => P (endDef args (.ok (f, w))))) : P (runD F d args) := by
  obtain ⟨f, w', e, q⟩ := h
  rw [rd_eq, if_pos hl, e]
  exact q
theorem fn_val {d : Def} {args : List Arg} {p : PV} (hl : args.length = d.np ∧ d.np ≤ d.ns) (ho : isOwn args = false) (h : Run F d.body (env0 d args) (fun f _ => f = .rt (.val p))) : runD F d args = .ok (.val p) none := by
  refine fn_run (P := fun r => r = .ok (.val p) none) hl (run_mono h fun f w q => ?_)
  subst q
  rw [ed_rv, ho]
  rfl
theorem fn_new {d : Def} {args : List Arg} {c : Cell} (hl : args.length = d.np ∧ d.np ≤ d.ns) (ho : isOwn args = false) (h : Run F d.body (env0 d args) (fun f _ => f = .rt (.new c))) : runD F d args = .ok (.new c) none := by
  refine fn_run (P := fun r => r = .ok (.new c) none) hl (run_mono h fun f w q => ?_)
  subst q
  rw [ed_rn, ho]
  rfl
theorem fn_nx {d : Def} {args : List Arg} (hl : args.length = d.np ∧ d.np ≤ d.ns) (ho : isOwn args = false) (h : Run F d.body (env0 d args) (fun f _ => f = .nx)) : runD F d args = .ok (.val .non) none := by
  refine fn_run (P := fun r => r = .ok (.val .non) none) hl (run_mono h fun f w q => ?_)
  subst q
  rw [ed_nx, ho]
  rfl
end
/-! ### values that are compared -/
structure EqE {α : Type} [DecidableEq α] (n : Nat) (e : α → PV) : Prop where
  dat : ∀ x, ∃ d, toD (e x) = some d ∧ d.canLay0 = true ∧ d.depth ≤ n
  eq : ∀ x y, eqP (e x) (e y) = decide (x = y)
theorem shp_of {p : PV} {d : PyData} {n : Nat} (h : toD p = some d) (h2 : d.canLay0 = true) (h3 : d.depth ≤ n) (hn : n ≤ 64) : shp p = true := by
  unfold shp
  rw [h]
  simp [SeqAt.shaped, h2]
  omega
section
variable {α β : Type} [DecidableEq α] [DecidableEq β] {n m : Nat} {e : α → PV} {f : β → PV}
theorem EqE.shp (E : EqE n e) (hn : n ≤ 64) (x : α) : shp (e x) = true := by
  obtain ⟨d, h1, h2, h3⟩ := E.dat x
  exact shp_of h1 h2 h3 hn
theorem EqE.dats (E : EqE n e) : ∀ xs : List α, ∃ ds, toDs (xs.map e) = some ds ∧ PyData.canLayAll0 ds = true ∧ PyData.depthAll ds ≤ n
  | [] => ⟨[], rfl, rfl, by simp [PyData.depthAll]⟩
  | a :: r => by
    obtain ⟨ds, h1, h2, h3⟩ := E.dats r
    obtain ⟨d, k1, k2, k3⟩ := E.dat a
    refine ⟨d :: ds, ?_, ?_, ?_⟩
    · show (match toD (e a), toDs (r.map e) with | some d, some ds => some (d :: ds) | _, _ => none) = _
      rw [h1, k1]
    · simp [PyData.canLayAll0, h2, k2]
    · simp only [PyData.depthAll]; omega
theorem EqE.shpT (E : EqE n e) (hn : n < 64) (xs : List α) : PL.shp (.tup (xs.map e)) = true := by
  obtain ⟨ds, h1, h2, h3⟩ := E.dats xs
  refine shp_of (d := .tuple ds) (n := n + 1) ?_ ?_ ?_ (by omega)
  · show (toDs (xs.map e)).map PyData.tuple = _
    rw [h1]; rfl
  · simp [PyData.canLay0, h2]
  · simp only [PyData.depth]; omega
theorem EqE.shpL (E : EqE n e) (hn : n < 64) (xs : List α) : PL.shp (.lst (xs.map e)) = true := by
  obtain ⟨ds, h1, h2, h3⟩ := E.dats xs
  refine shp_of (d := .list ds) (n := n + 1) ?_ ?_ ?_ (by omega)
  · show (toDs (xs.map e)).map PyData.list = _
    rw [h1]; rfl
  · simp [PyData.canLay0, h2]
  · simp only [PyData.depth]; omega
theorem EqE.mem (E : EqE n e) (xs : List α) (x : α) : memP (xs.map e) (e x) = decide (x ∈ xs) := by
  unfold memP
  induction xs with
  | nil => rfl
  | cons a r ih =>
    rw [List.map_cons, List.any_cons, ih, E.eq]
    by_cases h : a = x
    · subst h; simp
    · have h1 : ¬ x = a := fun z => h z.symm
      simp [h, h1]
theorem EqE.cEq (E : EqE n e) (hn : n ≤ 64) (x y : α) : copV .eq (e x) (e y) = some (decide (x = y)) := by
  show (if PL.shp (e x) = true ∧ PL.shp (e y) = true then some (eqP (e x) (e y)) else none) = _
  rw [if_pos ⟨E.shp hn x, E.shp hn y⟩, E.eq]
theorem EqE.cNe (E : EqE n e) (hn : n ≤ 64) (x y : α) : copV .ne (e x) (e y) = some (!decide (x = y)) := by
  show (if PL.shp (e x) = true ∧ PL.shp (e y) = true then some (!eqP (e x) (e y)) else none) = _
  rw [if_pos ⟨E.shp hn x, E.shp hn y⟩, E.eq]
theorem EqE.cMemT (E : EqE n e) (hn : n < 64) (x : α) (xs : List α) : copV .mem (e x) (.tup (xs.map e)) = some (decide (x ∈ xs)) := by
  show (if PL.shp (e x) = true ∧ PL.shp (.tup (xs.map e)) = true then some (memP (xs.map e) (e x)) else none) = _
  rw [if_pos ⟨E.shp (by omega) x, E.shpT hn xs⟩, E.mem]
theorem EqE.cMemL (E : EqE n e) (hn : n < 64) (x : α) (xs : List α) : copV .mem (e x) (.lst (xs.map e)) = some (decide (x ∈ xs)) := by
  show (if PL.shp (e x) = true ∧ PL.shp (.lst (xs.map e)) = true then some (memP (xs.map e) (e x)) else none) = _
  rw [if_pos ⟨E.shp (by omega) x, E.shpL hn xs⟩, E.mem]
theorem EqE.cNmT (E : EqE n e) (hn : n < 64) (x : α) (xs : List α) : copV .nmem (e x) (.tup (xs.map e)) = some (!decide (x ∈ xs)) := by
  show (if PL.shp (e x) = true ∧ PL.shp (.tup (xs.map e)) = true then some (!memP (xs.map e) (e x)) else none) = _
  rw [if_pos ⟨E.shp (by omega) x, E.shpT hn xs⟩, E.mem]
theorem EqE.cNmL (E : EqE n e) (hn : n < 64) (x : α) (xs : List α) : copV .nmem (e x) (.lst (xs.map e)) = some (!decide (x ∈ xs)) := by
  show (if PL.shp (e x) = true ∧ PL.shp (.lst (xs.map e)) = true then some (!memP (xs.map e) (e x)) else none) = _
  rw [if_pos ⟨E.shp (by omega) x, E.shpL hn xs⟩, E.mem]
theorem EqE.int : EqE 1 PV.int := ⟨fun x => ⟨.int x, rfl, rfl, by simp [PyData.depth]⟩, eqP_int⟩
theorem EqE.bl : EqE 1 PV.bl := ⟨fun x => ⟨.bool x, rfl, rfl, by simp [PyData.depth]⟩, fun x y => by cases x <;> cases y <;> rfl⟩
theorem eqs_map (E : EqE n e) : ∀ xs ys : List α, ∀ ds es, toDs (xs.map e) = some ds → toDs (ys.map e) = some es → PyData.eqvAll ds es = decide (xs = ys)
  | [], [], ds, es, h1, h2 => by cases h1; cases h2; rfl
  | [], y :: ys, ds, es, h1, h2 => by
    cases h1
    obtain ⟨d, k1, k2, k3⟩ := E.dat y
    obtain ⟨ds', l1, l2, l3⟩ := E.dats ys
    have h2 : (match toD (e y), toDs (ys.map e) with | some d, some ds => some (d :: ds) | _, _ => none) = some es := h2
    rw [k1, l1] at h2
    cases h2
    simp [PyData.eqvAll]
  | x :: xs, [], ds, es, h1, h2 => by
    cases h2
    obtain ⟨d, k1, k2, k3⟩ := E.dat x
    obtain ⟨ds', l1, l2, l3⟩ := E.dats xs
    have h1 : (match toD (e x), toDs (xs.map e) with | some d, some ds => some (d :: ds) | _, _ => none) = some ds := h1
    rw [k1, l1] at h1
    cases h1
    simp [PyData.eqvAll]
  | x :: xs, y :: ys, ds, es, h1, h2 => by
    obtain ⟨d, k1, k2, k3⟩ := E.dat x
    obtain ⟨ds', l1, l2, l3⟩ := E.dats xs
    obtain ⟨d2, m1, m2, m3⟩ := E.dat y
    obtain ⟨es', o1, o2, o3⟩ := E.dats ys
    have h1 : (match toD (e x), toDs (xs.map e) with | some d, some ds => some (d :: ds) | _, _ => none) = some ds := h1
    have h2 : (match toD (e y), toDs (ys.map e) with | some d, some ds => some (d :: ds) | _, _ => none) = some es := h2
    rw [k1, l1] at h1
    rw [m1, o1] at h2
    cases h1
    cases h2
    have e1 := E.eq x y
    unfold eqP at e1
    rw [k1, m1] at e1
    have e2 := eqs_map E xs ys ds' es' l1 o1
    have e1 : PyData.eqv d d2 = decide (x = y) := e1
    simp only [PyData.eqvAll, e1, e2, List.cons.injEq, Bool.decide_and]
theorem EqE.tup (E : EqE n e) : EqE (n + 1) (fun xs : List α => PV.tup (xs.map e)) := ⟨fun xs => by
    obtain ⟨ds, h1, h2, h3⟩ := E.dats xs
    refine ⟨.tuple ds, ?_, ?_, ?_⟩
    · show (toDs (xs.map e)).map PyData.tuple = _
      rw [h1]; rfl
    · simp [PyData.canLay0, h2]
    · simp only [PyData.depth]; omega, fun xs ys => by
    obtain ⟨ds, h1, h2, h3⟩ := E.dats xs
    obtain ⟨es, k1, k2, k3⟩ := E.dats ys
    have t1 : toD (.tup (xs.map e)) = some (.tuple ds) := by
      show (toDs (xs.map e)).map PyData.tuple = _
      rw [h1]; rfl
    have t2 : toD (.tup (ys.map e)) = some (.tuple es) := by
      show (toDs (ys.map e)).map PyData.tuple = _
      rw [k1]; rfl
    unfold eqP
    rw [t1, t2]
    have := eqs_map E xs ys ds es h1 k1
    simpa [PyData.eqv] using this⟩
theorem EqE.lst (E : EqE n e) : EqE (n + 1) (fun xs : List α => PV.lst (xs.map e)) := ⟨fun xs => by
    obtain ⟨ds, h1, h2, h3⟩ := E.dats xs
    refine ⟨.list ds, ?_, ?_, ?_⟩
    · show (toDs (xs.map e)).map PyData.list = _
      rw [h1]; rfl
    · simp [PyData.canLay0, h2]
    · simp only [PyData.depth]; omega, fun xs ys => by
    obtain ⟨ds, h1, h2, h3⟩ := E.dats xs
    obtain ⟨es, k1, k2, k3⟩ := E.dats ys
    have t1 : toD (.lst (xs.map e)) = some (.list ds) := by
      show (toDs (xs.map e)).map PyData.list = _
      rw [h1]; rfl
    have t2 : toD (.lst (ys.map e)) = some (.list es) := by
      show (toDs (ys.map e)).map PyData.list = _
      rw [k1]; rfl
    unfold eqP
    rw [t1, t2]
    have := eqs_map E xs ys ds es h1 k1
    simpa [PyData.eqv] using this⟩
theorem EqE.pair (E : EqE n e) (G : EqE m f) : EqE (max n m + 1) (fun p : α × β => PV.tup [e p.1, f p.2]) := by
  have t : ∀ p : α × β, ∃ d d2, toD (PV.tup [e p.1, f p.2]) = some (.tuple [d, d2]) ∧ toD (e p.1) = some d ∧ toD (f p.2) = some d2 ∧ d.canLay0 = true ∧ d2.canLay0 = true ∧ d.depth ≤ n ∧ d2.depth ≤ m := fun p => by
    obtain ⟨d, h1, h2, h3⟩ := E.dat p.1
    obtain ⟨d2, k1, k2, k3⟩ := G.dat p.2
    refine ⟨d, d2, ?_, h1, k1, h2, k2, h3, k3⟩
    show (match toD (e p.1), (match toD (f p.2), toDs [] with | some d, some ds => some (d :: ds) | _, _ => none) with | some d, some ds => some (d :: ds) | _, _ => none).map PyData.tuple = _
    rw [h1, k1]
    rfl
  refine ⟨fun p => ?_, fun p q => ?_⟩
  · obtain ⟨d, d2, h1, _, _, h2, h3, h4, h5⟩ := t p
    refine ⟨_, h1, ?_, ?_⟩
    · simp [PyData.canLay0, PyData.canLayAll0, h2, h3]
    · simp only [PyData.depth, PyData.depthAll]; omega
  · obtain ⟨d, d2, h1, h2, h3, _⟩ := t p
    obtain ⟨d', d2', k1, k2, k3, _⟩ := t q
    have e1 := E.eq p.1 q.1
    have e2 := G.eq p.2 q.2
    unfold eqP at e1 e2 ⊢
    rw [h2, k2] at e1
    rw [h3, k3] at e2
    rw [h1, k1]
    have e1 : PyData.eqv d d' = decide (p.1 = q.1) := e1
    have e2 : PyData.eqv d2 d2' = decide (p.2 = q.2) := e2
    show PyData.eqv (.tuple [d, d2]) (.tuple [d', d2']) = _
    simp only [PyData.eqv, PyData.eqvAll, e1, e2, Bool.and_true, Prod.ext_iff, Bool.decide_and]
end
abbrev iT (r : List Int) : PV := .tup (r.map .int)
abbrev iL (r : List Int) : PV := .lst (r.map .int)
abbrev pR (p : Int × Int) : PV := .tup [.int p.1, .int p.2]
theorem EqE.pR : EqE 2 pR := EqE.pair EqE.int EqE.int
theorem EqE.iT : EqE 2 iT := EqE.tup EqE.int
/-- free, or a plain value -/
def PJ (o : Option Cell) : Prop := o = none ∨ ∃ p, o = some (.fz p)
theorem PJ.n : PJ none := .inl rfl
theorem PJ.z (p : PV) : PJ (some (.fz p)) := .inr ⟨p, rfl⟩
theorem pl1 {env : Env} {i : Nat} (h : PJ (get env i)) : plainAt env [i] = true := by
  rw [pl_fz]
  rcases h with h | ⟨p, h⟩ <;> rw [h] <;> rfl
theorem pl2 {env : Env} {i j : Nat} (h : PJ (get env i)) (h2 : PJ (get env j)) : plainAt env [i, j] = true := by
  rw [pl_fz, pl1 h2]
  rcases h with h | ⟨p, h⟩ <;> rw [h] <;> rfl
theorem pl3 {env : Env} {i j k : Nat} (h : PJ (get env i)) (h2 : PJ (get env j)) (h3 : PJ (get env k)) : plainAt env [i, j, k] = true := by
  rw [pl_fz, pl2 h2 h3]
  rcases h with h | ⟨p, h⟩ <;> rw [h] <;> rfl
/-! ### comprehensions, in one equation -/
section
variable {α β σ : Type} {F : Sem} {own : List Nat} {t : Tg} {it c e : E} {env env1 w : Env} {xs : List α} {φ g : α → PV} {r : RV}
/-- one turn, typed -/
abbrev lcT (F : Sem) (own : List Nat) (t : Tg) (c e : E) (p : PV) (w : Env) : Res (Option PV × Env) := lcTurn (evTg F t) (ev F c).t (fun e1 => ((ev F e).e e1).bind fun q => optR (take q.1 q.2)) (fun e1 => wipeE e1 own) p w
theorem lc_map (hi : (ev F it).i env = .ok ((xs.map φ, r), env1)) (hp : plainAt env1 own = true) (hw : wipeE env1 own = w) (H : ∀ a ∈ xs, lcT F own t c e (φ a) w = .ok (some (g a), w)) :
    (ev F (.lc own t it c e)).e env = .ok (.new (.lst (xs.map g)), unb r (restore env1 w own)) := by
  rw [v_lc, hi, bind_ok]
  dsimp only
  rw [hp]
  dsimp only
  rw [hw, lcGo_map xs [] H]
  rfl
theorem lc_fil {p : α → Bool} (hi : (ev F it).i env = .ok ((xs.map φ, r), env1)) (hp : plainAt env1 own = true) (hw : wipeE env1 own = w) (H : ∀ a ∈ xs, lcT F own t c e (φ a) w = .ok (if p a then some (g a) else none, w)) :
    (ev F (.lc own t it c e)).e env = .ok (.new (.lst ((xs.filter p).map g)), unb r (restore env1 w own)) := by
  rw [v_lc, hi, bind_ok]
  dsimp only
  rw [hp]
  dsimp only
  rw [hw, lcGo_filter xs [] H]
  rfl
theorem lcGo_ex {bind : PV → Env → Res Env} {test : Env → Res (Bool × Env)} {elt : Env → Res (PV × Env)} {wipe : Env → Env} {φ : α → PV} {I : σ → Prop} {W : σ → Env} {ψ : β → PV} {R : β → Prop} :
    ∀ (xs : List α) (acc : List PV) (s : σ), I s → (∀ a ∈ xs, ∀ s, I s → ∃ b s', lcTurn bind test elt wipe (φ a) (W s) = .ok (some (ψ b), W s') ∧ R b ∧ I s') →
    ∃ (bs : List β) (s' : σ), lcGo own bind test elt wipe (xs.map φ) acc (W s) = .ok (acc ++ bs.map ψ, W s') ∧ bs.length = xs.length ∧ (∀ b ∈ bs, R b) ∧ I s'
  | [], acc, s, hi, _ => ⟨[], s, by
      show Res.ok (acc, W s) = _
      rw [List.map_nil, List.append_nil], rfl, fun b hb => (by cases hb), hi⟩
  | a :: r, acc, s, hi, h => by
    obtain ⟨b, s1, h1, h2, h3⟩ := h a List.mem_cons_self s hi
    obtain ⟨bs, s2, h4, h5, h6, h7⟩ := lcGo_ex (I := I) (R := R) (ψ := ψ) (W := W) r (acc ++ [ψ b]) s1 h3 fun c hc => h c (List.mem_cons_of_mem _ hc)
    refine ⟨b :: bs, s2, ?_, by rw [List.length_cons, List.length_cons, h5], fun c hc => ?_, h7⟩
    · rw [List.map_cons, lcGo_cons, h1, bind_ok]
      show lcGo own bind test elt wipe (r.map φ) (acc ++ [ψ b]) (W s1) = _
      rw [h4, List.append_assoc]
      rfl
    · rcases List.mem_cons.mp hc with rfl | hc
      · exact h2
      · exact h6 c hc
/-- .. with a state (draws) -/
theorem lc_ex {ψ : β → PV} {I : σ → Prop} {W : σ → Env} {R : β → Prop} {s : σ} (hi : (ev F it).i env = .ok ((xs.map φ, r), env1)) (hp : plainAt env1 own = true) (hw : wipeE env1 own = W s) (hs : I s)
    (H : ∀ a ∈ xs, ∀ s, I s → ∃ b s', lcT F own t c e (φ a) (W s) = .ok (some (ψ b), W s') ∧ R b ∧ I s') :
    ∃ (bs : List β) (s' : σ), (ev F (.lc own t it c e)).e env = .ok (.new (.lst (bs.map ψ)), unb r (restore env1 (W s') own)) ∧ bs.length = xs.length ∧ (∀ b ∈ bs, R b) ∧ I s' := by
  obtain ⟨bs, s', h1, h2, h3, h4⟩ := lcGo_ex (own := own) xs [] s hs H
  refine ⟨bs, s', ?_, h2, h3, h4⟩
  rw [v_lc, hi, bind_ok]
  dsimp only
  rw [hp]
  dsimp only
  rw [hw, h1]
  rfl
end
theorem mthV_locG (m : Str) (ts : Env → Res (List PV × Env)) (j : Nat) (env : Env) : mthV m ts (.loc j, env) = match get env j with
    | some c0 => (ts env).bind fun q => match get q.2 j with
      | some c => if kindC c = kindC c0 then (match mthC m c q.1 with
        | some (v, none) => .ok (.val v, q.2)
        | some (v, some d) => .ok (.val v, q.2.set j (some d))
        | none => .stuck) else .stuck
      | none => .stuck
    | none => .stuck := by
  cases h : get env j with
  | none => unfold mthV; dsimp only [vwC]; rw [h]
  | some c0 => exact mthV_loc m ts j env c0 h
theorem par_non (f : Env → Res (RV × Env)) (env : Env) : parO (isNop (.con .non)) f env = .ok (none, env) := rfl
theorem par_con (i : Int) (f : Env → Res (RV × Env)) (env : Env) : parO (isNop (.con (.int i))) f env = (f env).bind fun r => match r.1 with
  | .val (.int i) => .ok (some i, r.2)
  | _ => .stuck := rfl
theorem par_var (i : Nat) (f : Env → Res (RV × Env)) (env : Env) : parO (isNop (.var i)) f env = (f env).bind fun r => match r.1 with
  | .val (.int i) => .ok (some i, r.2)
  | _ => .stuck := rfl
theorem par_bop (o a b) (f : Env → Res (RV × Env)) (env : Env) : parO (isNop (.bop o a b)) f env = (f env).bind fun r => match r.1 with
  | .val (.int i) => .ok (some i, r.2)
  | _ => .stuck := rfl
theorem par_neg (a) (f : Env → Res (RV × Env)) (env : Env) : parO (isNop (.neg a)) f env = (f env).bind fun r => match r.1 with
  | .val (.int i) => .ok (some i, r.2)
  | _ => .stuck := rfl
theorem par_calm (g i es) (f : Env → Res (RV × Env)) (env : Env) : parO (isNop (.calm g i es)) f env = (f env).bind fun r => match r.1 with
  | .val (.int i) => .ok (some i, r.2)
  | _ => .stuck := rfl
theorem par_blt (g es) (f : Env → Res (RV × Env)) (env : Env) : parO (isNop (.blt g es)) f env = (f env).bind fun r => match r.1 with
  | .val (.int i) => .ok (some i, r.2)
  | _ => .stuck := rfl
theorem RPAR : type_of% @par_non ∧ type_of% @par_con ∧ type_of% @par_var ∧ type_of% @par_bop ∧ type_of% @par_neg ∧ type_of% @par_calm ∧ type_of% @par_blt := ⟨@par_non, @par_con, @par_var, @par_bop, @par_neg, @par_calm, @par_blt⟩
/-! ### typed facts -/
theorem range_split {n x : Nat} {pre post : List Nat} (h : List.range n = pre ++ x :: post) : x = pre.length ∧ x < n := by
  have h1 : (List.range n)[pre.length]? = some x := by rw [h]; simp
  have h2 : pre.length < n := by
    have := congrArg List.length h
    rw [List.length_range, List.length_append, List.length_cons] at this
    omega
  rw [List.getElem?_range h2] at h1
  have := Option.some.inj h1
  omega
theorem rngI (n : Int) (h : 0 ≤ n ∧ n ≤ 1000000) (env : Env) : rngB ([.val (.int n)], env) = .ok (((List.range n.toNat).map fun (k : Nat) => PV.int (k : Int), .val .non), env) := by
  obtain ⟨k, rfl⟩ := Int.eq_ofNat_of_zero_le h.1
  rw [Int.toNat_natCast]
  exact rngN k env (by omega)
theorem zipP_map {α β : Type} (f : α → PV) (g : β → PV) : ∀ (xs : List α) (ys : List β), zipP (xs.map f) (ys.map g) = (List.zip xs ys).map fun p => .tup [f p.1, g p.2]
  | [], _ => rfl
  | _ :: _, [] => rfl
  | x :: xs, y :: ys => by
    show PV.tup [f x, g y] :: zipP (xs.map f) (ys.map g) = _
    rw [zipP_map f g xs ys]
    rfl
theorem small_mul {i j : Int} (h1 : i.natAbs ≤ 1000000000) (h2 : j.natAbs ≤ 1000000000) : mulOk i j = true := mulOk_of (pow_le _ 0 (by omega)) (pow_le _ 0 (by omega))
theorem asBls_map {α : Type} (f : α → Bool) : ∀ xs : List α, asBls (xs.map fun a => .bl (f a)) = some (xs.map f)
  | [] => rfl
  | a :: r => by show (asBls (r.map fun a => .bl (f a))).map (f a :: ·) = _; rw [asBls_map f r]; rfl
theorem asI_map {α : Type} (f : α → Int) : ∀ xs : List α, asInts (xs.map fun a => .int (f a)) = some (xs.map f)
  | [] => rfl
  | a :: r => by show (asInts (r.map fun a => .int (f a))).map (f a :: ·) = _; rw [asI_map f r]; rfl
theorem mth_appM {α : Type} (φ : α → PV) (xs : List α) (x : α) (h : xs.length < sizeLine) : mthC "append" (.lst (xs.map φ)) [φ x] = some (.non, some (.lst ((xs ++ [x]).map φ))) := by
  rw [mth_app _ _ (by rw [List.length_map]; exact h), List.map_append]
  rfl
theorem bo_addtM {α : Type} (φ : α → PV) (xs ys : List α) (h : xs.length + ys.length ≤ sizeLine) : bopV .add (.tup (xs.map φ)) (.tup (ys.map φ)) = some (.tup ((xs ++ ys).map φ)) := by
  rw [bo_addt _ _ (by rw [List.length_map, List.length_map]; exact h), List.map_append]
theorem bo_addlM {α : Type} (φ : α → PV) (xs ys : List α) (h : xs.length + ys.length ≤ sizeLine) : bopV .add (.lst (xs.map φ)) (.lst (ys.map φ)) = some (.lst ((xs ++ ys).map φ)) := by
  rw [bo_addl _ _ (by rw [List.length_map, List.length_map]; exact h), List.map_append]
theorem atM {α : Type} (φ : α → PV) (xs : List α) (k : Nat) (h : k < xs.length) : atI (xs.map φ) (k : Int) = some (φ xs[k]) := ix_at (by rw [List.getElem?_map, List.getElem?_eq_getElem h]; rfl)
theorem sl_tup (xs lo hi) : slP (.tup xs) lo hi = some (.tup (cutP xs lo hi)) := rfl
theorem sl_lst (xs lo hi) : slP (.lst xs) lo hi = some (.lst (cutP xs lo hi)) := rfl
theorem sIx_nat (n d k : Nat) : HT.sIx n d (some (k : Int)) = min k n := by
  unfold HT.sIx
  simp only []
  first | omega | (split <;> omega) | (simp; omega)
theorem sIx_no (n d : Nat) : HT.sIx n d none = d := by unfold HT.sIx; rfl
theorem cut_from (xs : List PV) (k : Nat) : cutP xs (some (k : Int)) none = xs.drop k := by
  unfold cutP
  rw [sIx_nat, sIx_no, List.take_of_length_le (by rw [List.length_drop]; omega)]
  by_cases h : k ≤ xs.length
  · rw [Nat.min_eq_left h]
  · rw [Nat.min_eq_right (by omega), List.drop_of_length_le (Nat.le_refl _), List.drop_of_length_le (by omega)]
theorem cut_to (xs : List PV) (k : Nat) : cutP xs none (some (k : Int)) = xs.take k := by
  unfold cutP
  rw [sIx_nat, sIx_no, List.drop_zero, Nat.sub_zero]
  by_cases h : k ≤ xs.length
  · rw [Nat.min_eq_left h]
  · rw [Nat.min_eq_right (by omega), List.take_of_length_le (Nat.le_refl _), List.take_of_length_le (by omega)]
/-- the greatest -/
def mx : List Int → Int
  | [] => 0
  | n :: r => r.foldl max n
def mn : List Int → Int
  | [] => 0
  | n :: r => r.foldl min n
theorem foldl_max (r : List Int) : ∀ n : Int, n ≤ r.foldl max n ∧ (∀ x ∈ r, x ≤ r.foldl max n) ∧ (r.foldl max n = n ∨ r.foldl max n ∈ r) := by
  induction r with
  | nil => intro n; exact ⟨Int.le_refl _, fun x hx => (by cases hx), .inl rfl⟩
  | cons a r ih =>
    intro n
    obtain ⟨h1, h2, h3⟩ := ih (max n a)
    rw [List.foldl_cons]
    refine ⟨by omega, fun x hx => ?_, ?_⟩
    · rcases List.mem_cons.mp hx with rfl | hx
      · omega
      · exact h2 x hx
    · rcases h3 with h3 | h3
      · rw [h3]
        rcases Int.le_total n a with z | z
        · right; rw [Int.max_eq_right z]; exact List.mem_cons_self
        · left; exact Int.max_eq_left z
      · exact .inr (List.mem_cons_of_mem _ h3)
theorem foldl_min (r : List Int) : ∀ n : Int, r.foldl min n ≤ n ∧ (∀ x ∈ r, r.foldl min n ≤ x) ∧ (r.foldl min n = n ∨ r.foldl min n ∈ r) := by
  induction r with
  | nil => intro n; exact ⟨Int.le_refl _, fun x hx => (by cases hx), .inl rfl⟩
  | cons a r ih =>
    intro n
    obtain ⟨h1, h2, h3⟩ := ih (min n a)
    rw [List.foldl_cons]
    refine ⟨by omega, fun x hx => ?_, ?_⟩
    · rcases List.mem_cons.mp hx with rfl | hx
      · omega
      · exact h2 x hx
    · rcases h3 with h3 | h3
      · rw [h3]
        rcases Int.le_total n a with z | z
        · left; exact Int.min_eq_left z
        · right; rw [Int.min_eq_right z]; exact List.mem_cons_self
      · exact .inr (List.mem_cons_of_mem _ h3)
theorem mx_mem {ns : List Int} (h : 0 < ns.length) : mx ns ∈ ns := by
  cases ns with
  | nil => cases h
  | cons n r =>
    rcases (foldl_max r n).2.2 with z | z
    · show r.foldl max n ∈ n :: r
      rw [z]; exact List.mem_cons_self
    · exact List.mem_cons_of_mem _ z
theorem mx_le {ns : List Int} : ∀ x ∈ ns, x ≤ mx ns := by
  cases ns with
  | nil => intro x hx; cases hx
  | cons n r =>
    intro x hx
    rcases List.mem_cons.mp hx with rfl | hx
    · exact (foldl_max r x).1
    · exact (foldl_max r n).2.1 x hx
theorem mn_mem {ns : List Int} (h : 0 < ns.length) : mn ns ∈ ns := by
  cases ns with
  | nil => cases h
  | cons n r =>
    rcases (foldl_min r n).2.2 with z | z
    · show r.foldl min n ∈ n :: r
      rw [z]; exact List.mem_cons_self
    · exact List.mem_cons_of_mem _ z
theorem mn_le {ns : List Int} : ∀ x ∈ ns, mn ns ≤ x := by
  cases ns with
  | nil => intro x hx; cases hx
  | cons n r =>
    intro x hx
    rcases List.mem_cons.mp hx with rfl | hx
    · exact (foldl_min r x).1
    · exact (foldl_min r n).2.1 x hx
theorem blt_minT (n : Int) (ns : List Int) : bltH "min" [.tup ((n :: ns).map .int)] = some (.sc (.int (ns.foldl min n))) := by
  unfold bltH
  repeat rw [if_neg (by decide)]
  rw [if_pos rfl]
  dsimp only
  rw [asInts_of]
theorem blt_minL (n : Int) (ns : List Int) : bltH "min" [.lst ((n :: ns).map .int)] = some (.sc (.int (ns.foldl min n))) := by
  unfold bltH
  repeat rw [if_neg (by decide)]
  rw [if_pos rfl]
  dsimp only
  rw [asInts_of]
theorem bl_mxT {ns : List Int} (h : 0 < ns.length) : bltH "max" [.tup (ns.map .int)] = some (.sc (.int (mx ns))) := by
  cases ns with
  | nil => cases h
  | cons n r => exact blt_maxT n r
theorem bl_mxL {ns : List Int} (h : 0 < ns.length) : bltH "max" [.lst (ns.map .int)] = some (.sc (.int (mx ns))) := by
  cases ns with
  | nil => cases h
  | cons n r => exact blt_maxL n r
theorem bl_mnT {ns : List Int} (h : 0 < ns.length) : bltH "min" [.tup (ns.map .int)] = some (.sc (.int (mn ns))) := by
  cases ns with
  | nil => cases h
  | cons n r => exact blt_minT n r
theorem bl_mnL {ns : List Int} (h : 0 < ns.length) : bltH "min" [.lst (ns.map .int)] = some (.sc (.int (mn ns))) := by
  cases ns with
  | nil => cases h
  | cons n r => exact blt_minL n r
/-- sorting ints -/
def insI (x : Int) : List Int → List Int
  | [] => [x]
  | y :: r => if y < x then y :: insI x r else x :: y :: r
def sortI : List Int → List Int
  | [] => []
  | x :: r => insI x (sortI r)
theorem insP_int (x : Int) : ∀ l : List Int, insP (.int x) (l.map .int) = (insI x l).map .int
  | [] => rfl
  | y :: r => by
    show (if ltB (.int y) (.int x) = true then PV.int y :: insP (.int x) (r.map .int) else _) = _
    have e : ltB (.int y) (.int x) = decide (y < x) := by
      unfold ltB cmpP
      by_cases h : y < x
      · simp [h]
      · by_cases h2 : y = x <;> simp [h, h2]
    rw [e, insP_int x r, show insI x (y :: r) = if y < x then y :: insI x r else x :: y :: r from rfl]
    by_cases h : y < x
    · simp [h]
    · simp [h]
theorem isortP_int : ∀ l : List Int, isortP (l.map .int) = (sortI l).map .int
  | [] => rfl
  | x :: r => by
    show insP (.int x) (isortP (r.map .int)) = _
    rw [isortP_int r, insP_int]
    rfl
theorem mem_insI {x y : Int} : ∀ {l : List Int}, y ∈ insI x l ↔ y = x ∨ y ∈ l
  | [] => by simp [insI]
  | z :: r => by
    unfold insI
    split
    · rw [List.mem_cons, mem_insI (l := r), List.mem_cons]
      constructor
      · rintro (h | h | h) <;> simp [h]
      · rintro (h | h | h) <;> simp [h]
    · simp
theorem mem_sortI {y : Int} : ∀ {l : List Int}, y ∈ sortI l ↔ y ∈ l
  | [] => Iff.rfl
  | x :: r => by
    show y ∈ insI x (sortI r) ↔ _
    rw [mem_insI, mem_sortI, List.mem_cons]
theorem len_insI (x : Int) : ∀ l : List Int, (insI x l).length = l.length + 1
  | [] => rfl
  | y :: r => by
    unfold insI
    split
    · rw [List.length_cons, len_insI x r, List.length_cons]
    · rfl
theorem len_sortI : ∀ l : List Int, (sortI l).length = l.length
  | [] => rfl
  | x :: r => by show (insI x (sortI r)).length = _; rw [len_insI, len_sortI r]; rfl
theorem srtOk_int (l : List Int) : srtOk (l.map .int) = true := by
  unfold srtOk
  rw [asInts_of]
  rfl
theorem srt_L (l : List Int) : bltK "sorted" [.lst (l.map .int)] = some (.lst ((sortI l).map .int)) := by
  unfold bltK
  rw [if_neg (by decide), if_neg (by decide), if_pos rfl]
  dsimp only
  rw [srtOk_int, if_pos rfl, isortP_int]
/-! ### dicts over typed keys -/
section
variable {α β : Type} [DecidableEq α] {κ : α → List L2.Key} {ψ : β → PV}
def dkS (κ : α → List L2.Key) (l : List α) : List (List L2.Key × PV) := l.map fun a => (κ a, PV.bl true)
def addA (l : List α) (i : α) : List α := if i ∈ l then l else l ++ [i]
theorem mem_addA {l : List α} {i j : α} : j ∈ addA l i ↔ j ∈ l ∨ j = i := by
  unfold addA
  split
  · rename_i h
    constructor
    · exact .inl
    · rintro (z | rfl)
      · exact z
      · exact h
  · rw [List.mem_append, List.mem_singleton]
theorem len_addA (l : List α) (i : α) : (addA l i).length ≤ l.length + 1 := by
  unfold addA
  split
  · omega
  · rw [List.length_append]; exact Nat.le_refl _
theorem dHas_S (hκ : ∀ a b, κ a = κ b → a = b) (l : List α) (i : α) : dHas (dkS κ l) (κ i) = decide (i ∈ l) := by
  unfold dHas dkS
  induction l with
  | nil => simp
  | cons a r ih =>
    rw [List.map_cons, List.any_cons, ih]
    by_cases h : a = i
    · subst h; simp
    · have h1 : ¬ i = a := fun z => h z.symm
      have h2 : ¬ κ a = κ i := fun z => h (hκ _ _ z)
      simp [h1, h2]
theorem dPut_S (hκ : ∀ a b, κ a = κ b → a = b) (l : List α) (i : α) : dPut (dkS κ l) (κ i) (.bl true) = dkS κ (addA l i) := by
  unfold dPut
  rw [dHas_S hκ]
  unfold addA
  by_cases h : i ∈ l
  · rw [if_pos (decide_eq_true h), if_pos h]
    unfold dkS
    rw [List.map_map]
    apply List.map_congr_left
    intro a _
    show (if κ a = κ i then _ else _) = _
    split
    · rfl
    · rfl
  · rw [if_neg (by simp [h]), if_neg h]
    unfold dkS
    rw [List.map_append]
    rfl
def dkM (κ : α → List L2.Key) (ψ : β → PV) (l : List (α × β)) : List (List L2.Key × PV) := l.map fun p => (κ p.1, ψ p.2)
def lookA : List (α × β) → α → Option β
  | [], _ => none
  | (a, b) :: r, k => if a = k then some b else lookA r k
def putA (l : List (α × β)) (k : α) (v : β) : List (α × β) := if (lookA l k).isSome = true then l.map (fun p => if p.1 = k then (p.1, v) else p) else l ++ [(k, v)]
theorem dHas_M (hκ : ∀ a b, κ a = κ b → a = b) (l : List (α × β)) (i : α) : dHas (dkM κ ψ l) (κ i) = (lookA l i).isSome := by
  unfold dHas dkM
  induction l with
  | nil => rfl
  | cons a r ih =>
    obtain ⟨a, b⟩ := a
    rw [List.map_cons, List.any_cons, ih, lookA]
    by_cases h : a = i
    · subst h; simp
    · have h2 : ¬ κ a = κ i := fun z => h (hκ _ _ z)
      simp [h, h2]
theorem dGet_M (hκ : ∀ a b, κ a = κ b → a = b) (l : List (α × β)) (i : α) : dGet (dkM κ ψ l) (κ i) = (lookA l i).map ψ := by
  unfold dGet dkM
  induction l with
  | nil => rfl
  | cons a r ih =>
    obtain ⟨a, b⟩ := a
    rw [List.map_cons, List.find?_cons, lookA]
    by_cases h : a = i
    · subst h; simp
    · have h2 : ¬ κ a = κ i := fun z => h (hκ _ _ z)
      rw [if_neg h, ← ih]
      simp only [decide_eq_false h2]
theorem dPut_M (hκ : ∀ a b, κ a = κ b → a = b) (l : List (α × β)) (i : α) (v : β) : dPut (dkM κ ψ l) (κ i) (ψ v) = dkM κ ψ (putA l i v) := by
  unfold dPut
  rw [dHas_M hκ]
  unfold putA
  by_cases h : (lookA l i).isSome = true
  · rw [if_pos h, if_pos h]
    unfold dkM
    rw [List.map_map, List.map_map]
    apply List.map_congr_left
    rintro ⟨a, b⟩ _
    show (if κ a = κ i then (κ a, ψ v) else (κ a, ψ b)) = (fun p : α × β => (κ p.1, ψ p.2)) (if a = i then (a, v) else (a, b))
    by_cases h : a = i
    · subst h; simp
    · have h2 : ¬ κ a = κ i := fun z => h (hκ _ _ z)
      simp [h, h2]
  · rw [if_neg h, if_neg h]
    unfold dkM
    rw [List.map_append]
    rfl
theorem look_put (l : List (α × β)) (k j : α) (v : β) : lookA (putA l k v) j = if j = k then some v else lookA l j := by
  unfold putA
  split
  · rename_i h
    induction l with
    | nil => cases h
    | cons a r ih =>
      obtain ⟨a, b⟩ := a
      rw [List.map_cons]
      by_cases h1 : a = k
      · subst h1
        rw [if_pos rfl, lookA]
        by_cases h2 : j = a
        · subst h2; simp
        · have h3 : ¬ a = j := fun z => h2 z.symm
          rw [if_neg h3, if_neg h2, lookA, if_neg h3]
          clear ih h
          induction r with
          | nil => rfl
          | cons c r ih =>
            obtain ⟨c, d⟩ := c
            rw [List.map_cons]
            by_cases h4 : c = a
            · subst h4
              rw [if_pos rfl, lookA, lookA, if_neg h3, if_neg h3, ih]
            · rw [if_neg h4, lookA, lookA, ih]
      · rw [lookA, if_neg h1] at h
        rw [if_neg h1, lookA, lookA, ih h]
        by_cases h2 : a = j
        · subst h2
          simp [h1]
        · simp [h2]
  · rename_i h
    have h0 : lookA l k = none := by
      cases e : lookA l k with
      | none => rfl
      | some b => rw [e] at h; exact absurd rfl h
    clear h
    induction l with
    | nil =>
      show lookA [(k, v)] j = _
      rw [lookA]
      by_cases h2 : j = k
      · subst h2; simp [lookA]
      · have h3 : ¬ k = j := fun z => h2 z.symm
        simp [h2, h3, lookA]
    | cons a r ih =>
      obtain ⟨a, b⟩ := a
      rw [lookA] at h0
      by_cases h1 : a = k
      · rw [if_pos h1] at h0; cases h0
      · rw [if_neg h1] at h0
        show lookA ((a, b) :: (r ++ [(k, v)])) j = _
        rw [lookA, lookA, ih h0]
        by_cases h2 : a = j
        · subst h2; simp [h1]
        · simp [h2]
end
def κI (i : Int) : List L2.Key := [Sum.inl i]
def κP (p : Int × Int) : List L2.Key := [Sum.inl p.1, Sum.inl p.2]
theorem κI_inj (a b : Int) (h : κI a = κI b) : a = b := by unfold κI at h; simpa using h
theorem κP_inj (a b : Int × Int) (h : κP a = κP b) : a = b := by unfold κP at h; simp at h; exact Prod.ext h.1 h.2
theorem key_i (i : Int) : keyP false (.int i) = some (κI i) := rfl
theorem key_p (p : Int × Int) : keyP true (pR p) = some (κP p) := rfl
theorem put_dct (b kvs y p) : putC (.dct b kvs) y p = (keyP b y).bind fun k => if kvs.length < sizeLine then some (.dct b (dPut kvs k p)) else none := rfl
/-- one more in a dict of ints that bears True -/
theorem put_SI (l : List Int) (i : Int) (h : l.length < sizeLine) : putC (.dct false (dkS κI l)) (.int i) (.bl true) = some (.dct false (dkS κI (addA l i))) := by
  rw [put_dct, key_i]
  show (if (dkS κI l).length < sizeLine then some (Cell.dct false (dPut (dkS κI l) (κI i) (.bl true))) else none) = _
  rw [if_pos (by unfold dkS; rw [List.length_map]; exact h), dPut_S κI_inj]
theorem put_SP (l : List (Int × Int)) (i : Int × Int) (h : l.length < sizeLine) : putC (.dct true (dkS κP l)) (pR i) (.bl true) = some (.dct true (dkS κP (addA l i))) := by
  rw [put_dct, key_p]
  show (if (dkS κP l).length < sizeLine then some (Cell.dct true (dPut (dkS κP l) (κP i) (.bl true))) else none) = _
  rw [if_pos (by unfold dkS; rw [List.length_map]; exact h), dPut_S κP_inj]
theorem mem_SI (l : List Int) (i : Int) : copV .mem (.int i) (.dct false (dkS κI l)) = some (decide (i ∈ l)) := by
  show (keyP false (.int i)).map (fun k => dHas (dkS κI l) k) = _
  rw [key_i, op_mapS, dHas_S κI_inj]
theorem nmem_SI (l : List Int) (i : Int) : copV .nmem (.int i) (.dct false (dkS κI l)) = some (!decide (i ∈ l)) := by
  show (keyP false (.int i)).map (fun k => !dHas (dkS κI l) k) = _
  rw [key_i, op_mapS, dHas_S κI_inj]
theorem mem_SP (l : List (Int × Int)) (i : Int × Int) : copV .mem (pR i) (.dct true (dkS κP l)) = some (decide (i ∈ l)) := by
  show (keyP true (pR i)).map (fun k => dHas (dkS κP l) k) = _
  rw [key_p, op_mapS, dHas_S κP_inj]
  exact congrArg some (decide_eq_decide.mpr Iff.rfl)
theorem nmem_SP (l : List (Int × Int)) (i : Int × Int) : copV .nmem (pR i) (.dct true (dkS κP l)) = some (!decide (i ∈ l)) := by
  show (keyP true (pR i)).map (fun k => !dHas (dkS κP l) k) = _
  rw [key_p, op_mapS, dHas_S κP_inj]
  exact congrArg (fun b => some (!b)) (decide_eq_decide.mpr Iff.rfl)
theorem srt_SI (l : List Int) : bltK "sorted" [.dct false (dkS κI l)] = some (.srt ((sortI l).map .int)) := by
  have e : (dkS κI l).map (fun kv => ofK false kv.1) = l.map .int := by
    unfold dkS
    rw [List.map_map]
    rfl
  unfold bltK
  rw [if_neg (by decide), if_neg (by decide), if_pos rfl]
  dsimp only
  rw [e, srtOk_int, if_pos rfl, isortP_int]
theorem key_int (i : Int) : keyP false (.int i) = some [Sum.inl i] := rfl
theorem same_o {Pg : Prog} (hS : Pg.defs (.fn "_law_same") = some h_same) (n d : Nat) {p q : PV} (h : deep d p) (e : q = p) : evF Pg (n + d) (.fn "_law_same") [.val p, .val q] = .ok (.val (.bl true)) none := by
  subst e
  exact same_ok hS d _ h n
end PL
set_option Elab.async false
set_option linter.all false
set_option maxRecDepth 100000
set_option maxHeartbeats 4000000
namespace PL
namespace K72
open PySem
/-! ### folded rulers: the mathematics -/
abbrev addI (l : List Int) (i : Int) : List Int := addA l i
theorem mem_addI {l : List Int} {i j : Int} : j ∈ addI l i ↔ j ∈ l ∨ j = i := mem_addA
theorem len_addI (l : List Int) (i : Int) : (addI l i).length ≤ l.length + 1 := len_addA l i
def put1 (room a : Int) (acc : List Int) (p : Int) : List Int := if p + a ≤ room then addI acc (p + a) else acc
def put2 (a : Int) (acc : List Int) (p : Int) : List Int := if 0 ≤ p - a then addI acc (p - a) else acc
def stp (room a : Int) (acc : List Int) (p : Int) : List Int := put2 a (put1 room a acc p) p
theorem mem_stp {room a : Int} {acc : List Int} {p s : Int} : s ∈ stp room a acc p ↔ s ∈ acc ∨ (s = p + a ∧ s ≤ room) ∨ (s = p - a ∧ 0 ≤ s) := by
  unfold stp put1 put2
  split <;> split
  all_goals
    try rw [mem_addI]
    try rw [mem_addI]
    constructor
    · intro h
      first
        | (rcases h with (h | h) | h
           · exact .inl h
           · exact .inr (.inl ⟨h, by omega⟩)
           · exact .inr (.inr ⟨h, by omega⟩))
        | (rcases h with h | h
           · exact .inl h
           · first | exact .inr (.inl ⟨h, by omega⟩) | exact .inr (.inr ⟨h, by omega⟩))
        | exact .inl h
    · rintro (h | ⟨h, h2⟩ | ⟨h, h2⟩)
      · simp [h]
      · first | omega | simp [h]
      · first | omega | simp [h]
theorem mem_stps {room a s : Int} : ∀ {l acc : List Int}, s ∈ l.foldl (stp room a) acc ↔ s ∈ acc ∨ ∃ p ∈ l, (s = p + a ∧ s ≤ room) ∨ (s = p - a ∧ 0 ≤ s)
  | [], acc => by simp
  | q :: l, acc => by
    rw [List.foldl_cons, mem_stps (l := l), mem_stp]
    simp only [List.mem_cons, exists_eq_or_imp]
    rw [or_assoc]
theorem len_stps {room a : Int} : ∀ (l acc : List Int), (l.foldl (stp room a) acc).length ≤ acc.length + 2 * l.length
  | [], acc => by simp
  | q :: l, acc => by
    rw [List.foldl_cons]
    have h1 := len_stps (room := room) (a := a) l (stp room a acc q)
    have h2 : (stp room a acc q).length ≤ acc.length + 2 := by
      unfold stp put1 put2
      have := len_addI acc (q + a)
      have := len_addI acc (q - a)
      have := len_addI (addI acc (q + a)) (q - a)
      split <;> split <;> omega
    rw [List.length_cons]
    omega
def stepR (room : Int) (l : List Int) (a : Int) : List Int := sortI (l.foldl (stp room a) [])
theorem mem_stepR {room a s : Int} {l : List Int} : s ∈ stepR room l a ↔ (s ≤ room ∧ s - a ∈ l) ∨ (0 ≤ s ∧ s + a ∈ l) := by
  unfold stepR
  rw [mem_sortI, mem_stps]
  constructor
  · rintro (h | ⟨p, hp, ⟨rfl, h⟩ | ⟨rfl, h⟩⟩)
    · cases h
    · left; exact ⟨h, by rw [show p + a - a = p by omega]; exact hp⟩
    · right; exact ⟨h, by rw [show p - a + a = p by omega]; exact hp⟩
  · rintro (⟨h, hp⟩ | ⟨h, hp⟩)
    · exact .inr ⟨_, hp, .inl ⟨by omega, h⟩⟩
    · exact .inr ⟨_, hp, .inr ⟨by omega, h⟩⟩
def base (room : Int) : List Int := (List.range (room + 1).toNat).map fun (k : Nat) => (k : Int)
theorem mem_base {room s : Int} (h : 0 ≤ room) : s ∈ base room ↔ 0 ≤ s ∧ s ≤ room := by
  unfold base
  rw [List.mem_map]
  constructor
  · rintro ⟨k, hk, rfl⟩
    have := List.mem_range.mp hk
    omega
  · rintro ⟨h1, h2⟩
    exact ⟨s.toNat, List.mem_range.mpr (by omega), by omega⟩
def rowR (room : Int) (ns : List Int) : List Int := ns.foldl (stepR room) (base room)
theorem row_snoc (room : Int) (ns : List Int) (a : Int) : rowR room (ns ++ [a]) = stepR room (rowR room ns) a := by
  unfold rowR
  rw [List.foldl_append]
  rfl
theorem snocI {P : List Int → Prop} (h0 : P []) (h1 : ∀ ns a, P ns → P (ns ++ [a])) (ns : List Int) : P ns := by
  have : ∀ r : List Int, P r.reverse := by
    intro r
    induction r with
    | nil => exact h0
    | cons a r ih => rw [List.reverse_cons]; exact h1 _ _ ih
  have := this ns.reverse
  rwa [List.reverse_reverse] at this
theorem row_in {room : Int} (hr : 0 ≤ room) (ns : List Int) : (∀ x ∈ ns, 0 < x) → ∀ s ∈ rowR room ns, 0 ≤ s ∧ s ≤ room := by
  refine snocI (P := fun ns => (∀ x ∈ ns, 0 < x) → ∀ s ∈ rowR room ns, 0 ≤ s ∧ s ≤ room) (fun _ s hs => (mem_base hr).mp hs) (fun ns a ih hp s hs => ?_) ns
  have ha := hp a (by simp)
  have ih := ih fun x hx => hp x (by simp [hx])
  rw [row_snoc, mem_stepR] at hs
  rcases hs with ⟨h1, h2⟩ | ⟨h1, h2⟩
  · have := ih _ h2; omega
  · have := ih _ h2; omega
/-- positions -/
def path : Int → List Int → List Int → List Int
  | p, a :: ns, s :: fs => (p + s * a) :: path (p + s * a) ns fs
  | _, _, _ => []
def dot : List Int → List Int → Int
  | x :: xs, y :: ys => x * y + dot xs ys
  | _, _ => 0
theorem path_snoc : ∀ (ns fs : List Int) (p a s : Int), fs.length = ns.length → path p (ns ++ [a]) (fs ++ [s]) = path p ns fs ++ [p + dot fs ns + s * a]
  | [], [], p, a, s, _ => by simp [path, dot]
  | [], _ :: _, _, _, _, h => by cases h
  | _ :: _, [], _, _, _, h => by cases h
  | b :: ns, t :: fs, p, a, s, h => by
    show (p + t * b) :: path (p + t * b) (ns ++ [a]) (fs ++ [s]) = _
    rw [path_snoc ns fs _ a s (by simpa using h)]
    show _ = (p + t * b) :: (path (p + t * b) ns fs ++ [p + (t * b + dot fs ns) + s * a])
    rw [show p + t * b + dot fs ns + s * a = p + (t * b + dot fs ns) + s * a by omega]
theorem dot_snoc : ∀ (xs ys : List Int) (x y : Int), xs.length = ys.length → dot (xs ++ [x]) (ys ++ [y]) = dot xs ys + x * y
  | [], [], x, y, _ => by simp [dot]
  | [], _ :: _, _, _, h => by cases h
  | _ :: _, [], _, _, h => by cases h
  | a :: xs, b :: ys, x, y, h => by
    show a * b + dot (xs ++ [x]) (ys ++ [y]) = a * b + dot xs ys + x * y
    rw [dot_snoc xs ys x y (by simpa using h)]
    omega
/-- the backward choice: links from the last one on -/
def sideOf (room a : Int) (r : List Int) (h : Int) : Int := if h - a ∈ rowR room r.reverse then 1 else -1
def bk (room : Int) : List Int → Int → List Int
  | [], _ => []
  | a :: r, h => sideOf room a r h :: bk room r (h - sideOf room a r h * a)
theorem side_or (room a : Int) (r : List Int) (h : Int) : sideOf room a r h = 1 ∨ sideOf room a r h = -1 := by
  unfold sideOf
  split
  · exact .inl rfl
  · exact .inr rfl
theorem bk_len (room : Int) : ∀ (r : List Int) (h : Int), (bk room r h).length = r.length
  | [], _ => rfl
  | a :: r, h => by unfold bk; rw [List.length_cons, List.length_cons, bk_len room r]
theorem bk_or (room : Int) : ∀ (r : List Int) (h : Int), ∀ x ∈ bk room r h, x = 1 ∨ x = -1
  | [], _, x, hx => by cases hx
  | a :: r, h, x, hx => by
    unfold bk at hx
    rcases List.mem_cons.mp hx with rfl | hx
    · exact side_or room a r h
    · exact bk_or room r _ x hx
theorem bk_ok {room : Int} (hr : 0 ≤ room) : ∀ (r : List Int) (h : Int), (∀ x ∈ r, 0 < x) → h ∈ rowR room r.reverse →
    ∃ p, 0 ≤ p ∧ p ≤ room ∧ (∀ q ∈ path p r.reverse (bk room r h).reverse, 0 ≤ q ∧ q ≤ room) ∧ p + dot (bk room r h).reverse r.reverse = h
  | [], h, _, hh => by
    have := (mem_base hr).mp hh
    exact ⟨h, this.1, this.2, fun q hq => (by cases hq), by simp [bk, dot]⟩
  | a :: r, h, hp, hh => by
    have hin := row_in hr (a :: r).reverse (fun x hx => hp x (List.mem_reverse.mp hx)) h hh
    rw [List.reverse_cons, row_snoc, mem_stepR] at hh
    have hh' : h - sideOf room a r h * a ∈ rowR room r.reverse := by
      unfold sideOf
      split
      · rename_i z
        rw [Int.one_mul]
        exact z
      · rename_i z
        rcases hh with hh | hh
        · exact absurd hh.2 z
        · rw [show h - -1 * a = h + a by omega]
          exact hh.2
    obtain ⟨p, h1, h2, h3, h4⟩ := bk_ok hr r _ (fun x hx => hp x (List.mem_cons_of_mem _ hx)) hh'
    have hl : (bk room r (h - sideOf room a r h * a)).reverse.length = r.reverse.length := by rw [List.length_reverse, List.length_reverse, bk_len]
    refine ⟨p, h1, h2, fun q hq => ?_, ?_⟩
    · unfold bk at hq
      rw [List.reverse_cons, List.reverse_cons, path_snoc _ _ _ _ _ hl] at hq
      rcases List.mem_append.mp hq with hq | hq
      · exact h3 q hq
      · obtain rfl : q = _ := List.mem_singleton.mp hq
        rw [h4]
        omega
    · unfold bk
      rw [List.reverse_cons, List.reverse_cons, dot_snoc _ _ _ _ hl]
      omega
theorem reach {room : Int} : ∀ (ns fs l : List Int) (p : Int), fs.length = ns.length → (∀ x ∈ fs, x = 1 ∨ x = -1) → p ∈ l → (∀ q ∈ path p ns fs, 0 ≤ q ∧ q ≤ room) → ns.foldl (stepR room) l ≠ []
  | [], _, l, p, _, _, hp, _ => fun e => by
    have e : l = [] := e
    rw [e] at hp; cases hp
  | a :: ns, [], _, _, h, _, _, _ => by cases h
  | a :: ns, s :: fs, l, p, h, hs, hp, hq => by
    rw [List.foldl_cons]
    have h1 := hq (p + s * a) List.mem_cons_self
    refine reach ns fs (stepR room l a) (p + s * a) (by simpa using h) (fun x hx => hs x (List.mem_cons_of_mem _ hx)) ?_ (fun q h => hq q (List.mem_cons_of_mem _ h))
    rw [mem_stepR]
    rcases hs s List.mem_cons_self with rfl | rfl
    · left; exact ⟨h1.2, by rw [show p + 1 * a - a = p by omega]; exact hp⟩
    · right; exact ⟨h1.1, by rw [show p + -1 * a + a = p by omega]; exact hp⟩
/-- the law's own length -/
def lenGo : Int → Int → Int → List Int → List Int → Int
  | h, lo, hi, a :: ns, s :: fs => lenGo (h + s * a) (min lo (h + s * a)) (max hi (h + s * a)) ns fs
  | _, lo, hi, _, _ => hi - lo
def lawLen (ns fs : List Int) : Int := lenGo 0 0 0 ns fs
theorem lenGo_eq : ∀ (ns fs : List Int) (h lo hi : Int), lenGo h lo hi ns fs = (path h ns fs).foldl max hi - (path h ns fs).foldl min lo
  | [], _, _, _, _ => by simp [lenGo, path]
  | _ :: _, [], _, _, _ => by simp [lenGo, path]
  | a :: ns, s :: fs, h, lo, hi => by
    show lenGo (h + s * a) (min lo (h + s * a)) (max hi (h + s * a)) ns fs = _
    rw [lenGo_eq ns fs]
    rfl
theorem lenGo_ge : ∀ (ns fs : List Int) (h lo hi : Int), lo ≤ h → h ≤ hi → fs.length = ns.length → (∀ x ∈ fs, x = 1 ∨ x = -1) → hi - lo ≤ lenGo h lo hi ns fs ∧ ∀ a ∈ ns, a ≤ lenGo h lo hi ns fs
  | [], _, _, _, _, _, _, _, _ => ⟨by simp [lenGo], fun a ha => by cases ha⟩
  | _ :: _, [], _, _, _, _, _, h, _ => by cases h
  | a :: ns, s :: fs, h, lo, hi, h1, h2, hl, hs => by
    obtain ⟨k1, k2⟩ := lenGo_ge ns fs (h + s * a) (min lo (h + s * a)) (max hi (h + s * a)) (by omega) (by omega) (by simpa using hl) (fun x hx => hs x (List.mem_cons_of_mem _ hx))
    show hi - lo ≤ lenGo (h + s * a) (min lo (h + s * a)) (max hi (h + s * a)) ns fs ∧ ∀ b ∈ a :: ns, b ≤ lenGo (h + s * a) (min lo (h + s * a)) (max hi (h + s * a)) ns fs
    refine ⟨by omega, fun b hb => ?_⟩
    rcases List.mem_cons.mp hb with rfl | hb
    · rcases hs s List.mem_cons_self with rfl | rfl
      · omega
      · omega
    · exact k2 b hb
theorem path_shift : ∀ (ns fs : List Int) (p d : Int), path (p + d) ns fs = (path p ns fs).map (· + d)
  | [], _, _, _ => by simp [path]
  | _ :: _, [], _, _ => by simp [path]
  | a :: ns, s :: fs, p, d => by
    show (p + d + s * a) :: path (p + d + s * a) ns fs = (p + s * a + d) :: (path (p + s * a) ns fs).map (· + d)
    rw [show p + d + s * a = (p + s * a) + d by omega, path_shift ns fs]
/-- what lies within a room is no longer -/
theorem len_of_in {room p : Int} {ns fs : List Int} (h1 : 0 ≤ p) (h2 : p ≤ room) (h : ∀ q ∈ path p ns fs, 0 ≤ q ∧ q ≤ room) : lawLen ns fs ≤ room := by
  unfold lawLen
  rw [lenGo_eq]
  have e : path p ns fs = (path 0 ns fs).map (· + p) := by
    have := path_shift ns fs 0 p
    rwa [Int.zero_add] at this
  have hh : ∀ q ∈ path 0 ns fs, 0 ≤ q + p ∧ q + p ≤ room := fun q hq => h (q + p) (by rw [e]; exact List.mem_map.mpr ⟨q, hq, rfl⟩)
  obtain ⟨_, _, a1⟩ := foldl_max (path 0 ns fs) 0
  obtain ⟨_, _, a2⟩ := foldl_min (path 0 ns fs) 0
  rcases a1 with a1 | a1 <;> rcases a2 with a2 | a2
  · omega
  · have := hh _ a2; omega
  · have := hh _ a1; omega
  · have := hh _ a1; have := hh _ a2; omega
theorem in_of_len {room : Int} {ns fs : List Int} (h : lawLen ns fs ≤ room) : ∃ p, 0 ≤ p ∧ p ≤ room ∧ ∀ q ∈ path p ns fs, 0 ≤ q ∧ q ≤ room := by
  unfold lawLen at h
  rw [lenGo_eq] at h
  obtain ⟨b1, c1, _⟩ := foldl_max (path 0 ns fs) 0
  obtain ⟨b2, c2, _⟩ := foldl_min (path 0 ns fs) 0
  refine ⟨-(path 0 ns fs).foldl min 0, by omega, by omega, fun q hq => ?_⟩
  have e := path_shift ns fs 0 (-(path 0 ns fs).foldl min 0)
  rw [Int.zero_add] at e
  rw [e] at hq
  obtain ⟨q', h1, rfl⟩ := List.mem_map.mp hq
  have := c1 q' h1
  have := c2 q' h1
  constructor <;> omega
theorem row_of_len {room : Int} (hr : 0 ≤ room) {ns fs : List Int} (hl : fs.length = ns.length) (hs : ∀ x ∈ fs, x = 1 ∨ x = -1) (h : lawLen ns fs ≤ room) : rowR room ns ≠ [] := by
  obtain ⟨p, h1, h2, h3⟩ := in_of_len h
  exact reach ns fs (base room) p hl hs ((mem_base hr).mpr ⟨h1, h2⟩) h3
/-- the folds that are told -/
def foldsW (room : Int) (ns : List Int) : List Int := (bk room ns.reverse ((rowR room ns).headD 0)).reverse
theorem folds_len (room : Int) (ns : List Int) : (foldsW room ns).length = ns.length := by unfold foldsW; rw [List.length_reverse, bk_len, List.length_reverse]
theorem folds_or (room : Int) (ns : List Int) : ∀ x ∈ foldsW room ns, x = 1 ∨ x = -1 := fun x hx => bk_or _ _ _ x (List.mem_reverse.mp hx)
theorem folds_in {room : Int} (hr : 0 ≤ room) {ns : List Int} (hp : ∀ x ∈ ns, 0 < x) (h : rowR room ns ≠ []) : lawLen ns (foldsW room ns) ≤ room := by
  have hm : (rowR room ns).headD 0 ∈ rowR room ns := by
    cases e : rowR room ns with
    | nil => exact absurd e h
    | cons a r => exact List.mem_cons_self
  obtain ⟨p, h1, h2, h3, _⟩ := bk_ok hr ns.reverse ((rowR room ns).headD 0) (fun x hx => hp x (List.mem_reverse.mp hx)) (by rw [List.reverse_reverse]; exact hm)
  rw [List.reverse_reverse] at h3
  exact len_of_in h1 h2 h3
/-- a room of twice the longest link, less 1, is enough -/
theorem row_wide {L : Int} : ∀ (ns l : List Int), (∀ x ∈ ns, 0 < x ∧ x ≤ L) → (∀ p ∈ l, 0 ≤ p ∧ p ≤ 2 * L - 1) → l ≠ [] → ns.foldl (stepR (2 * L - 1)) l ≠ []
  | [], l, _, _, h => h
  | a :: ns, l, hn, hl, h => by
    rw [List.foldl_cons]
    have ha := hn a List.mem_cons_self
    refine row_wide ns _ (fun x hx => hn x (List.mem_cons_of_mem _ hx)) (fun p hp => ?_) (fun e => ?_)
    · rcases mem_stepR.mp hp with ⟨h1, h2⟩ | ⟨h1, h2⟩
      · have := hl _ h2; omega
      · have := hl _ h2; omega
    · cases l with
      | nil => exact h rfl
      | cons q r =>
        have hq := hl q List.mem_cons_self
        by_cases z : a ≤ q
        · have : q - a ∈ stepR (2 * L - 1) (q :: r) a := mem_stepR.mpr (.inr ⟨by omega, by rw [show q - a + a = q by omega]; exact List.mem_cons_self⟩)
          rw [e] at this; cases this
        · have : q + a ∈ stepR (2 * L - 1) (q :: r) a := mem_stepR.mpr (.inl ⟨by omega, by rw [show q + a - a = q by omega]; exact List.mem_cons_self⟩)
          rw [e] at this; cases this
/-- all folds -/
def foldsA : Nat → List (List Int)
  | 0 => [[]]
  | n + 1 => (foldsA n).map (· ++ [1]) ++ (foldsA n).map (· ++ [-1])
theorem len_foldsA : ∀ n, (foldsA n).length = 2 ^ n
  | 0 => rfl
  | n + 1 => by
    show ((foldsA n).map (· ++ [1]) ++ (foldsA n).map (· ++ [-1])).length = _
    rw [List.length_append, List.length_map, List.length_map, len_foldsA n, Nat.pow_succ]; omega
theorem mem_foldsA : ∀ {n : Nat} {fs : List Int}, fs ∈ foldsA n ↔ fs.length = n ∧ ∀ x ∈ fs, x = 1 ∨ x = -1
  | 0, fs => by
    show fs ∈ [[]] ↔ _
    rw [List.mem_singleton]
    constructor
    · rintro rfl; exact ⟨rfl, fun x hx => by cases hx⟩
    · rintro ⟨h, _⟩; exact List.length_eq_zero_iff.mp h
  | n + 1, fs => by
    show fs ∈ (foldsA n).map (· ++ [1]) ++ (foldsA n).map (· ++ [-1]) ↔ _
    rw [List.mem_append, List.mem_map, List.mem_map]
    constructor
    · rintro (⟨r, hr, rfl⟩ | ⟨r, hr, rfl⟩)
      all_goals
        obtain ⟨h1, h2⟩ := mem_foldsA.mp hr
        refine ⟨by rw [List.length_append, h1]; rfl, fun x hx => ?_⟩
        rcases List.mem_append.mp hx with hx | hx
        · exact h2 x hx
        · rw [List.mem_singleton] at hx; subst hx; simp
    · rintro ⟨h1, h2⟩
      have hne : fs ≠ [] := fun e => by rw [e] at h1; cases h1
      have e := List.dropLast_concat_getLast hne
      have hd : fs.dropLast ∈ foldsA n := mem_foldsA.mpr ⟨by rw [List.length_dropLast, h1]; rfl, fun x hx => h2 x (List.dropLast_subset _ hx)⟩
      rcases h2 _ (List.getLast_mem hne) with z | z
      · left; exact ⟨_, hd, by rw [← z]; exact e⟩
      · right; exact ⟨_, hd, by rw [← z]; exact e⟩
def due (ns : List Int) : Int := mn ((foldsA ns.length).map (lawLen ns))
theorem due_pos (ns : List Int) : 0 < ((foldsA ns.length).map (lawLen ns)).length := by
  rw [List.length_map, len_foldsA]
  exact Nat.pow_pos (by decide)
theorem due_at (ns : List Int) : ∃ fs, fs.length = ns.length ∧ (∀ x ∈ fs, x = 1 ∨ x = -1) ∧ lawLen ns fs = due ns := by
  obtain ⟨fs, h1, h2⟩ := List.mem_map.mp (mn_mem (due_pos ns))
  obtain ⟨h3, h4⟩ := mem_foldsA.mp h1
  exact ⟨fs, h3, h4, h2⟩
theorem due_le {ns fs : List Int} (h1 : fs.length = ns.length) (h2 : ∀ x ∈ fs, x = 1 ∨ x = -1) : due ns ≤ lawLen ns fs := mn_le _ (List.mem_map.mpr ⟨fs, mem_foldsA.mpr ⟨h1, h2⟩, rfl⟩)
theorem due_ge {ns : List Int} (h0 : 0 < ns.length) : mx ns ≤ due ns := by
  obtain ⟨fs, h1, h2, h3⟩ := due_at ns
  rw [← h3]
  exact (lenGo_ge ns fs 0 0 0 (by omega) (by omega) h1 h2).2 _ (mx_mem h0)
/-- folds within a room are there just if it is no less -/
theorem row_iff {room : Int} (hr : 0 ≤ room) {ns : List Int} (hp : ∀ x ∈ ns, 0 < x) : rowR room ns ≠ [] ↔ due ns ≤ room := by
  constructor
  · intro h
    exact Int.le_trans (due_le (folds_len room ns) (folds_or room ns)) (folds_in hr hp h)
  · intro h
    obtain ⟨fs, h1, h2, h3⟩ := due_at ns
    exact row_of_len hr h1 h2 (by omega)
theorem due_lt {ns : List Int} (h0 : 0 < ns.length) (hp : ∀ x ∈ ns, 0 < x) : due ns < 2 * mx ns := by
  have h1 := hp _ (mx_mem h0)
  have h2 : rowR (2 * mx ns - 1) ns ≠ [] := row_wide ns (base (2 * mx ns - 1)) (fun x hx => ⟨hp x hx, mx_le x hx⟩) (fun p h => (mem_base (by omega)).mp h) (fun e => by
    have : (0 : Int) ∈ base (2 * mx ns - 1) := (mem_base (by omega)).mpr (by omega)
    rw [e] at this; cases this)
  have := (row_iff (by omega) hp).mp h2
  omega
end K72
end PL
namespace PL
open PySem PySem.Spec PyProof.Rows L2
theorem c_is_whole (n : Nat) (args : List Arg) : evF pg (n + 1) (.fn "is_whole") args = runD (pg.sem n) d_is_whole args := by
  show (match pg.defs (.fn "is_whole") with | some d => runD (pg.sem n) d args | none => .stuck) = _
  rw [at_is_whole]
theorem c_look_at_ruler (n : Nat) (args : List Arg) : evF pg (n + 1) (.fn "look_at_ruler") args = runD (pg.sem n) d_look_at_ruler args := by
  show (match pg.defs (.fn "look_at_ruler") with | some d => runD (pg.sem n) d args | none => .stuck) = _
  rw [at_look_at_ruler]
theorem c_joints_of (n : Nat) (args : List Arg) : evF pg (n + 1) (.fn "joints_of") args = runD (pg.sem n) d_joints_of args := by
  show (match pg.defs (.fn "joints_of") with | some d => runD (pg.sem n) d args | none => .stuck) = _
  rw [at_joints_of]
theorem c_is_folds (n : Nat) (args : List Arg) : evF pg (n + 1) (.fn "is_folds") args = runD (pg.sem n) d_is_folds args := by
  show (match pg.defs (.fn "is_folds") with | some d => runD (pg.sem n) d args | none => .stuck) = _
  rw [at_is_folds]
theorem c_folded_length (n : Nat) (args : List Arg) : evF pg (n + 1) (.fn "folded_length") args = runD (pg.sem n) d_folded_length args := by
  show (match pg.defs (.fn "folded_length") with | some d => runD (pg.sem n) d args | none => .stuck) = _
  rw [at_folded_length]
theorem c_reachable (n : Nat) (args : List Arg) : evF pg (n + 1) (.fn "reachable") args = runD (pg.sem n) d_reachable args := by
  show (match pg.defs (.fn "reachable") with | some d => runD (pg.sem n) d args | none => .stuck) = _
  rw [at_reachable]
theorem c_folds_within (n : Nat) (args : List Arg) : evF pg (n + 1) (.fn "folds_within") args = runD (pg.sem n) d_folds_within args := by
  show (match pg.defs (.fn "folds_within") with | some d => runD (pg.sem n) d args | none => .stuck) = _
  rw [at_folds_within]
theorem c_least_room (n : Nat) (args : List Arg) : evF pg (n + 1) (.fn "least_room") args = runD (pg.sem n) d_least_room args := by
  show (match pg.defs (.fn "least_room") with | some d => runD (pg.sem n) d args | none => .stuck) = _
  rw [at_least_room]
theorem c__law_draws (n : Nat) (args : List Arg) : evF pg (n + 1) (.fn "_law_draws") args = runD (pg.sem n) d__law_draws args := by
  show (match pg.defs (.fn "_law_draws") with | some d => runD (pg.sem n) d args | none => .stuck) = _
  rw [at__law_draws]
theorem c__law_draw (n : Nat) (args : List Arg) : evF pg (n + 1) (.fn "_law_draw") args = runD (pg.sem n) d__law_draw args := by
  show (match pg.defs (.fn "_law_draw") with | some d => runD (pg.sem n) d args | none => .stuck) = _
  rw [at__law_draw]
theorem c__law_same (n : Nat) (args : List Arg) : evF pg (n + 1) (.fn "_law_same") args = runD (pg.sem n) d__law_same args := by
  show (match pg.defs (.fn "_law_same") with | some d => runD (pg.sem n) d args | none => .stuck) = _
  rw [at__law_same]
theorem c__law_all (n : Nat) (args : List Arg) : evF pg (n + 1) (.fn "_law_all") args = runD (pg.sem n) d__law_all args := by
  show (match pg.defs (.fn "_law_all") with | some d => runD (pg.sem n) d args | none => .stuck) = _
  rw [at__law_all]
theorem c__law_length (n : Nat) (args : List Arg) : evF pg (n + 1) (.fn "_law_length") args = runD (pg.sem n) d__law_length args := by
  show (match pg.defs (.fn "_law_length") with | some d => runD (pg.sem n) d args | none => .stuck) = _
  rw [at__law_length]
theorem c__law_refused (n : Nat) (args : List Arg) : evF pg (n + 1) (.fn "_law_refused") args = runD (pg.sem n) d__law_refused args := by
  show (match pg.defs (.fn "_law_refused") with | some d => runD (pg.sem n) d args | none => .stuck) = _
  rw [at__law_refused]
theorem c_law (n : Nat) (args : List Arg) : evF pg (n + 1) (.fn "law") args = runD (pg.sem n) d_law args := by
  show (match pg.defs (.fn "law") with | some d => runD (pg.sem n) d args | none => .stuck) = _
  rw [at_law]
end PL
set_option Elab.async false
set_option linter.all false
set_option maxRecDepth 100000
set_option maxHeartbeats 2000000
namespace PL
open PySem PySem.Spec PyProof.Rows L2 K72
theorem r_wh_int (n) (i : Int) : evF pg (n + 1) (.fn "is_whole") [.val (.int i)] = .ok (.val (.bl true)) none := by
  rw [c_is_whole]
  simp only [↓toB, RU, Nat.reduceAdd, Nat.reduceSub, Nat.reduceLT, Nat.reduceLeDiff, Nat.reduceEqDiff, true_and, and_true, if_true, if_false, reduceIte, Bool.false_eq_true, reduceCtorEq, Int.reduceNeg, mthV_locG, RPAR, d_is_whole, isK_isi]
theorem r_wh_bl (n) (i : Bool) : evF pg (n + 1) (.fn "is_whole") [.val (.bl i)] = .ok (.val (.bl false)) none := by
  rw [c_is_whole]
  simp only [↓toB, RU, Nat.reduceAdd, Nat.reduceSub, Nat.reduceLT, Nat.reduceLeDiff, Nat.reduceEqDiff, true_and, and_true, if_true, if_false, reduceIte, Bool.false_eq_true, reduceCtorEq, Int.reduceNeg, mthV_locG, RPAR, d_is_whole]
theorem r_wh_str (n) (i : Str) : evF pg (n + 1) (.fn "is_whole") [.val (.str i)] = .ok (.val (.bl false)) none := by
  rw [c_is_whole]
  simp only [↓toB, RU, Nat.reduceAdd, Nat.reduceSub, Nat.reduceLT, Nat.reduceLeDiff, Nat.reduceEqDiff, true_and, and_true, if_true, if_false, reduceIte, Bool.false_eq_true, reduceCtorEq, Int.reduceNeg, mthV_locG, RPAR, d_is_whole]
theorem r_look (n) (ns : List Int) (h0 : 0 < ns.length) (h40 : ns.length ≤ 40) (hp : ∀ x ∈ ns, 0 < x) : evF pg (n + 2) (.fn "look_at_ruler") [.val (iT ns)] = .ok (.val .non) none := by
  have a1 : decide ((0 : Int) < (ns.length : Int)) = true := decide_eq_true (by omega)
  have a2 : decide ((ns.length : Int) ≤ 40) = true := decide_eq_true (by omega)
  rw [c_look_at_ruler]
  simp only [↓toB, RU, Nat.reduceAdd, Nat.reduceSub, Nat.reduceLT, Nat.reduceLeDiff, Nat.reduceEqDiff, true_and, and_true, if_true, if_false, reduceIte, Bool.false_eq_true, reduceCtorEq, Int.reduceNeg, mthV_locG, RPAR, d_look_at_ruler, List.length_map, a1, a2, v_lc]
  rw [lcGo_map (φ := PV.int) (g := fun _ => .bl true) ns []]
  · have e : (ns.map fun (_ : Int) => true).all id = true := by simp
    simp only [↓toB, RU, Nat.reduceAdd, Nat.reduceSub, Nat.reduceLT, Nat.reduceLeDiff, Nat.reduceEqDiff, true_and, and_true, if_true, if_false, reduceIte, Bool.false_eq_true, reduceCtorEq, Int.reduceNeg, mthV_locG, RPAR, asBls_map, e]
  · intro x hx
    have hx := hp x hx
    simp only [lcTurn, ↓toB, RU, Nat.reduceAdd, Nat.reduceSub, Nat.reduceLT, Nat.reduceLeDiff, Nat.reduceEqDiff, true_and, and_true, if_true, if_false, reduceIte, Bool.false_eq_true, reduceCtorEq, Int.reduceNeg, mthV_locG, RPAR, r_wh_int, decide_eq_true hx]
theorem cN (n : Nat) : decide ((0 : Int) < ((n + 1 : Nat) : Int)) = true := decide_eq_true (by omega)
theorem look_0 (n) : evF pg (n + 2) (.fn "look_at_ruler") [.val (.tup [])] = .exc "Refused" [("word", .str "ruler")] := by
  rw [c_look_at_ruler]
  simp only [↓toB, RU, Nat.reduceAdd, Nat.reduceSub, Nat.reduceLT, Nat.reduceLeDiff, Nat.reduceEqDiff, true_and, and_true, if_true, if_false, reduceIte, Bool.false_eq_true, reduceCtorEq, Int.reduceNeg, mthV_locG, RPAR, d_look_at_ruler]
  rfl
theorem look_1 (n) : evF pg (n + 2) (.fn "look_at_ruler") [.val (.lst [.int 1])] = .exc "Refused" [("word", .str "ruler")] := by
  rw [c_look_at_ruler]
  simp only [↓toB, RU, Nat.reduceAdd, Nat.reduceSub, Nat.reduceLT, Nat.reduceLeDiff, Nat.reduceEqDiff, true_and, and_true, if_true, if_false, reduceIte, Bool.false_eq_true, reduceCtorEq, Int.reduceNeg, mthV_locG, RPAR, d_look_at_ruler]
theorem look_2 (n) : evF pg (n + 2) (.fn "look_at_ruler") [.val (.tup [.int 0])] = .exc "Refused" [("word", .str "ruler")] := by
  have c01 : decide ((0 : Int) < ((1 : Nat) : Int)) = true := by decide
  have c140 : decide (((1 : Nat) : Int) ≤ 40) = true := by decide
  rw [c_look_at_ruler]
  simp only [↓toB, RU, Nat.reduceAdd, Nat.reduceSub, Nat.reduceLT, Nat.reduceLeDiff, Nat.reduceEqDiff, true_and, and_true, if_true, if_false, reduceIte, Bool.false_eq_true, reduceCtorEq, Int.reduceNeg, mthV_locG, RPAR, d_look_at_ruler, c01, c140, v_lc]
  rw [show ([PV.int 0] : List PV) = ([0] : List Int).map PV.int from rfl, lcGo_map (φ := PV.int) (g := fun _ => .bl false) [0] []]
  · simp only [↓toB, RU, Nat.reduceAdd, Nat.reduceSub, Nat.reduceLT, Nat.reduceLeDiff, Nat.reduceEqDiff, true_and, and_true, if_true, if_false, reduceIte, Bool.false_eq_true, reduceCtorEq, Int.reduceNeg, mthV_locG, RPAR, asBls]
    rfl
  · intro x hx
    obtain rfl : x = 0 := by simpa using hx
    simp only [lcTurn, ↓toB, RU, Nat.reduceAdd, Nat.reduceSub, Nat.reduceLT, Nat.reduceLeDiff, Nat.reduceEqDiff, true_and, and_true, if_true, if_false, reduceIte, Bool.false_eq_true, reduceCtorEq, Int.reduceNeg, mthV_locG, RPAR, r_wh_int]
    rfl
theorem look_41 (n) : evF pg (n + 2) (.fn "look_at_ruler") [.val (.tup (List.replicate 41 (.int 1)))] = .exc "Refused" [("word", .str "ruler")] := by
  rw [c_look_at_ruler]
  have c1 : decide ((0 : Int) < ((41 : Nat) : Int)) = true := by decide
  have c2 : decide (((41 : Nat) : Int) ≤ 40) = false := by decide
  simp only [↓toB, RU, Nat.reduceAdd, Nat.reduceSub, Nat.reduceLT, Nat.reduceLeDiff, Nat.reduceEqDiff, true_and, and_true, if_true, if_false, reduceIte, Bool.false_eq_true, reduceCtorEq, Int.reduceNeg, mthV_locG, RPAR, d_look_at_ruler, List.length_replicate, c1, c2]
/-- a ruler as the program wants it -/
structure Rul (ns : List Int) : Prop where
  n0 : 0 < ns.length
  n40 : ns.length ≤ 40
  pos : ∀ x ∈ ns, 0 < x
  small : ∀ x ∈ ns, x ≤ 1000
theorem pm_small {s a : Int} (h : s = 1 ∨ s = -1) (ha : 0 < a) (ha2 : a ≤ 1000) : mulOk s a = true := small_mul (by omega) (by omega)
theorem last_pos : ∀ (ns fs : List Int) (p : Int), fs.length = ns.length → ∃ l, p :: path p ns fs = l ++ [p + dot fs ns]
  | [], [], p, _ => ⟨[], by simp [path, dot]⟩
  | [], _ :: _, _, h => by cases h
  | _ :: _, [], _, h => by cases h
  | a :: ns, s :: fs, p, h => by
    obtain ⟨l, e⟩ := last_pos ns fs (p + s * a) (by simpa using h)
    refine ⟨p :: l, ?_⟩
    show p :: (p + s * a) :: path (p + s * a) ns fs = _
    rw [e]
    show p :: (l ++ [p + s * a + dot fs ns]) = p :: l ++ [p + (s * a + dot fs ns)]
    rw [Int.add_assoc]
    rfl
theorem zip_maps : ∀ (ns fs : List Int), fs.length = ns.length → (List.zip ns fs).map (·.1) = ns ∧ (List.zip ns fs).map (·.2) = fs
  | [], [], _ => ⟨rfl, rfl⟩
  | [], _ :: _, h => by cases h
  | _ :: _, [], h => by cases h
  | a :: ns, s :: fs, h => by
    obtain ⟨h1, h2⟩ := zip_maps ns fs (by simpa using h)
    exact ⟨by rw [List.zip_cons_cons, List.map_cons, h1], by rw [List.zip_cons_cons, List.map_cons, h2]⟩
theorem path_len : ∀ (l : List (Int × Int)) (p : Int), (path p (l.map (·.1)) (l.map (·.2))).length = l.length
  | [], _ => rfl
  | q :: r, p => by
    show (_ :: path _ (r.map (·.1)) (r.map (·.2))).length = _
    rw [List.length_cons, path_len r]
    rfl
theorem r_joints (n) {ns fs : List Int} (R : Rul ns) (hl : fs.length = ns.length) (hs : ∀ x ∈ fs, x = 1 ∨ x = -1) : evF pg (n + 1) (.fn "joints_of") [.val (iT ns), .val (iT fs)] = .ok (.val (iT (0 :: path 0 ns fs))) none := by
  rw [c_joints_of]
  refine fn_val ⟨rfl, by decide⟩ rfl ?_
  show Run _ d_joints_of.body [some (.fz (iT ns)), some (.fz (iT fs)), none, none, none] _
  unfold d_joints_of
  (apply run_step; · (simp only [↓toB, RU, Nat.reduceAdd, Nat.reduceSub, Nat.reduceLT, Nat.reduceLeDiff, Nat.reduceEqDiff, true_and, and_true, if_true, if_false, reduceIte, Bool.false_eq_true, reduceCtorEq, Int.reduceNeg, mthV_locG, RPAR]; try ((with_reducible refine okE ?_); rfl)))
  refine run_for0 (φ := fun p : Int × Int => .tup [.int p.1, .int p.2]) (xs := List.zip ns fs) (fun pre e => ∃ j3 j4, e = [some (.fz (iT ns)), some (.fz (iT fs)), some (.lst ((0 :: path 0 (pre.map (·.1)) (pre.map (·.2))).map .int)), j3, j4]) (p := .non) ?_ ⟨none, none, rfl⟩ ?_ ?_
  · simp only [↓toB, RU, Nat.reduceAdd, Nat.reduceSub, Nat.reduceLT, Nat.reduceLeDiff, Nat.reduceEqDiff, true_and, and_true, if_true, if_false, reduceIte, Bool.false_eq_true, reduceCtorEq, Int.reduceNeg, mthV_locG, RPAR, zipP_map]
    rfl
  · rintro pre ⟨a, s⟩ post e he ⟨j3, j4, rfl⟩
    have hm : (a, s) ∈ List.zip ns fs := by rw [he]; simp
    obtain ⟨ha, hb⟩ := List.of_mem_zip hm
    have m := pm_small (hs s hb) (R.pos a ha) (R.small a ha)
    obtain ⟨l, e1⟩ := last_pos (pre.map (·.1)) (pre.map (·.2)) 0 (by rw [List.length_map, List.length_map])
    have e2 := path_snoc (pre.map (·.1)) (pre.map (·.2)) 0 a s (by rw [List.length_map, List.length_map])
    have hlen : (l ++ [0 + dot (pre.map (·.2)) (pre.map (·.1))]).length < sizeLine := by
      have h1 := congrArg List.length he
      have h2 : (List.zip ns fs).length ≤ ns.length := by rw [List.length_zip]; omega
      have h3 := congrArg List.length e1
      have h4 := path_len pre 0
      rw [← h3, List.length_cons, h4]
      rw [List.length_append, List.length_cons] at h1
      have := R.n40
      rw [sizeLine_eq]
      omega
    have e3 : atI ((l ++ [0 + dot (pre.map (·.2)) (pre.map (·.1))]).map PV.int) (-1) = some (.int (0 + dot (pre.map (·.2)) (pre.map (·.1)))) := by
      rw [List.map_append]
      exact atI_last _ _
    have e4 := mth_appM PV.int (l ++ [0 + dot (pre.map (·.2)) (pre.map (·.1))]) (0 + dot (pre.map (·.2)) (pre.map (·.1)) + s * a) hlen
    refine ⟨[some (.fz (iT ns)), some (.fz (iT fs)), some (.lst ((0 :: path 0 (pre.map (·.1)) (pre.map (·.2))).map .int)), some (.fz (.int a)), some (.fz (.int s))], rfl, ?_⟩
    rw [e1]
    (apply run_step; · (simp only [↓toB, RU, Nat.reduceAdd, Nat.reduceSub, Nat.reduceLT, Nat.reduceLeDiff, Nat.reduceEqDiff, true_and, and_true, if_true, if_false, reduceIte, Bool.false_eq_true, reduceCtorEq, Int.reduceNeg, mthV_locG, RPAR, e3, bo_mul _ _ m, e4]; try ((with_reducible refine okE ?_); rfl)))
    refine run_nil ⟨rfl, some (.fz (.int a)), some (.fz (.int s)), ?_⟩
    have e5 : 0 :: path 0 ((pre ++ [(a, s)]).map (·.1)) ((pre ++ [(a, s)]).map (·.2)) = l ++ [0 + dot (pre.map (·.2)) (pre.map (·.1))] ++ [0 + dot (pre.map (·.2)) (pre.map (·.1)) + s * a] := by
      rw [List.map_append, List.map_append]
      show 0 :: path 0 (List.map (·.1) pre ++ [a]) (List.map (·.2) pre ++ [s]) = _
      rw [e2, ← List.cons_append, e1]
    rw [e5]
  · rintro e ⟨j3, j4, rfl⟩
    obtain ⟨z1, z2⟩ := zip_maps ns fs hl
    rw [z1, z2]
    (apply run_ret; · (simp only [↓toB, RU, Nat.reduceAdd, Nat.reduceSub, Nat.reduceLT, Nat.reduceLeDiff, Nat.reduceEqDiff, true_and, and_true, if_true, if_false, reduceIte, Bool.false_eq_true, reduceCtorEq, Int.reduceNeg, mthV_locG, RPAR]; try ((with_reducible refine okE ?_); rfl)))
    · rfl
theorem drop_cons {ns : List Int} {k : Nat} (h : k < ns.length) : ns.drop k = ns[k] :: ns.drop (k + 1) := List.drop_eq_getElem_cons h
theorem r_len (n) {ns fs : List Int} (R : Rul ns) (hl : fs.length = ns.length) (hs : ∀ x ∈ fs, x = 1 ∨ x = -1) : evF pg (n + 1) (.fn "_law_length") [.val (iT ns), .val (iT fs)] = .ok (.val (.int (lawLen ns fs))) none := by
  rw [c__law_length]
  refine fn_val ⟨rfl, by decide⟩ rfl ?_
  show Run _ d__law_length.body [some (.fz (iT ns)), some (.fz (iT fs)), none, none, none, none] _
  unfold d__law_length
  (apply run_step; · (simp only [↓toB, RU, Nat.reduceAdd, Nat.reduceSub, Nat.reduceLT, Nat.reduceLeDiff, Nat.reduceEqDiff, true_and, and_true, if_true, if_false, reduceIte, Bool.false_eq_true, reduceCtorEq, Int.reduceNeg, mthV_locG, RPAR]; try ((with_reducible refine okE ?_); rfl)))
  refine run_for0 (φ := fun k : Nat => PV.int (k : Int)) (xs := List.range ns.length) (fun pre e => ∃ j2 h lo hi, e = [some (.fz (iT ns)), some (.fz (iT fs)), j2, some (.fz (.int h)), some (.fz (.int lo)), some (.fz (.int hi))] ∧ lenGo h lo hi (ns.drop pre.length) (fs.drop pre.length) = lawLen ns fs) (p := .non) ?_ ⟨none, 0, 0, 0, rfl, rfl⟩ ?_ ?_
  · have b := fun env => rngN ns.length env (by have := R.n40; omega)
    (simp only [↓toB, RU, Nat.reduceAdd, Nat.reduceSub, Nat.reduceLT, Nat.reduceLeDiff, Nat.reduceEqDiff, true_and, and_true, if_true, if_false, reduceIte, Bool.false_eq_true, reduceCtorEq, Int.reduceNeg, mthV_locG, RPAR, List.length_map, b]; try ((with_reducible refine okE ?_); rfl))
  · rintro pre x post e he ⟨j2, h, lo, hi, rfl, eq⟩
    obtain ⟨rfl, hx⟩ := range_split he
    have m := pm_small (hs (fs[pre.length]'(by omega)) (List.getElem_mem _)) (R.pos _ (List.getElem_mem hx)) (R.small _ (List.getElem_mem hx))
    have e1 := atM PV.int ns pre.length hx
    have e2 := atM PV.int fs pre.length (by omega)
    refine ⟨[some (.fz (iT ns)), some (.fz (iT fs)), some (.fz (.int (pre.length : Int))), some (.fz (.int h)), some (.fz (.int lo)), some (.fz (.int hi))], rfl, ?_⟩
    (apply run_step; · (simp only [↓toB, RU, Nat.reduceAdd, Nat.reduceSub, Nat.reduceLT, Nat.reduceLeDiff, Nat.reduceEqDiff, true_and, and_true, if_true, if_false, reduceIte, Bool.false_eq_true, reduceCtorEq, Int.reduceNeg, mthV_locG, RPAR, e1, e2, bo_mul _ _ m]; try ((with_reducible refine okE ?_); rfl)))
    (apply run_step; · (simp only [↓toB, RU, Nat.reduceAdd, Nat.reduceSub, Nat.reduceLT, Nat.reduceLeDiff, Nat.reduceEqDiff, true_and, and_true, if_true, if_false, reduceIte, Bool.false_eq_true, reduceCtorEq, Int.reduceNeg, mthV_locG, RPAR, blt_min2, blt_max2]; try ((with_reducible refine okE ?_); rfl)))
    refine run_nil ⟨rfl, _, _, _, _, rfl, ?_⟩
    rw [← eq, drop_cons hx, drop_cons (ns := fs) (show pre.length < fs.length by omega), List.length_append, List.length_singleton]
    show _ = lenGo (h + fs[pre.length] * ns[pre.length]) (min lo (h + fs[pre.length] * ns[pre.length])) (max hi (h + fs[pre.length] * ns[pre.length])) _ _
    congr 1
    · omega
    · omega
  · rintro e ⟨j2, h, lo, hi, rfl, eq⟩
    have eq2 : hi - lo = lawLen ns fs := by
      rw [← eq, List.length_range, List.drop_length]
      rfl
    (apply run_ret; · (simp only [↓toB, RU, Nat.reduceAdd, Nat.reduceSub, Nat.reduceLT, Nat.reduceLeDiff, Nat.reduceEqDiff, true_and, and_true, if_true, if_false, reduceIte, Bool.false_eq_true, reduceCtorEq, Int.reduceNeg, mthV_locG, RPAR]; try ((with_reducible refine okE ?_); rfl)))
    · rw [eq2]
theorem r_folded (n) {ns fs : List Int} (R : Rul ns) (hl : fs.length = ns.length) (hs : ∀ x ∈ fs, x = 1 ∨ x = -1) : evF pg (n + 2) (.fn "folded_length") [.val (iT ns), .val (iT fs)] = .ok (.val (.int (lawLen ns fs))) none := by
  have e := r_joints n R hl hs
  have e1 : mx (0 :: path 0 ns fs) - mn (0 :: path 0 ns fs) = lawLen ns fs := (lenGo_eq ns fs 0 0 0).symm
  have h0 : 0 < (0 :: path 0 ns fs).length := by simp
  rw [c_folded_length]
  simp only [↓toB, RU, Nat.reduceAdd, Nat.reduceSub, Nat.reduceLT, Nat.reduceLeDiff, Nat.reduceEqDiff, true_and, and_true, if_true, if_false, reduceIte, Bool.false_eq_true, reduceCtorEq, Int.reduceNeg, mthV_locG, RPAR, d_folded_length, e, bl_mxT h0, bl_mnT h0, e1]
theorem r_all (n k : Nat) (hk : k ≤ 12) : evF pg (n + 1) (.fn "_law_all") [.val (.int (k : Int))] = .ok (.new (.lst ((foldsA k).map iT))) none := by
  rw [c__law_all]
  refine fn_new ⟨rfl, by decide⟩ rfl ?_
  show Run _ d__law_all.body [some (.fz (.int (k : Int))), none, none, none] _
  unfold d__law_all
  (apply run_step; · (simp only [↓toB, RU, Nat.reduceAdd, Nat.reduceSub, Nat.reduceLT, Nat.reduceLeDiff, Nat.reduceEqDiff, true_and, and_true, if_true, if_false, reduceIte, Bool.false_eq_true, reduceCtorEq, Int.reduceNeg, mthV_locG, RPAR]; try ((with_reducible refine okE ?_); rfl)))
  refine run_for0 (φ := fun k : Nat => PV.int (k : Int)) (xs := List.range k) (fun pre e => ∃ j2, e = [some (.fz (.int (k : Int))), some (.lst ((foldsA pre.length).map iT)), j2, none]) (p := .non) ?_ ⟨none, rfl⟩ ?_ ?_
  · have b := fun env => rngN k env (by omega)
    (simp only [↓toB, RU, Nat.reduceAdd, Nat.reduceSub, Nat.reduceLT, Nat.reduceLeDiff, Nat.reduceEqDiff, true_and, and_true, if_true, if_false, reduceIte, Bool.false_eq_true, reduceCtorEq, Int.reduceNeg, mthV_locG, RPAR, b]; try rfl)
  · rintro pre x post e he ⟨j2, rfl⟩
    obtain ⟨rfl, hx⟩ := range_split he
    have hp : (foldsA pre.length).length ≤ 4096 := by
      rw [len_foldsA]
      exact Nat.pow_le_pow_right (by decide) (show pre.length ≤ 12 by omega)
    refine ⟨[some (.fz (.int (k : Int))), some (.lst ((foldsA pre.length).map iT)), some (.fz (.int (pre.length : Int))), none], rfl, ?_⟩
    have lc : ∀ (v : Int) (ve : E), (∀ w, (ev (pg.sem n) ve).e w = .ok (.val (.int v), w)) → (ev (pg.sem n) (.lc [3] (.nm 3) (.var 1) (.con (.bl true)) (.bop .add (.var 3) (.tup (.cons ve .nil))))).e [some (.fz (.int (k : Int))), some (.lst ((foldsA pre.length).map iT)), some (.fz (.int (pre.length : Int))), none] = .ok (.new (.lst (((foldsA pre.length).map (· ++ [v])).map iT)), [some (.fz (.int (k : Int))), some (.lst ((foldsA pre.length).map iT)), some (.fz (.int (pre.length : Int))), none]) := fun v ve hv => by
      refine (lc_map (φ := iT) (g := fun r => iT (r ++ [v])) (xs := foldsA pre.length) (env1 := [some (.fz (.int (k : Int))), none, some (.fz (.int (pre.length : Int))), none]) (w := [some (.fz (.int (k : Int))), none, some (.fz (.int (pre.length : Int))), none]) (r := .brw 1 [] (.lst ((foldsA pre.length).map iT))) ?_ rfl rfl ?_).trans ?_
      · simp only [↓toB, RU, Nat.reduceAdd, Nat.reduceSub, Nat.reduceLT, Nat.reduceLeDiff, Nat.reduceEqDiff, true_and, and_true, if_true, if_false, reduceIte, Bool.false_eq_true, reduceCtorEq, Int.reduceNeg, mthV_locG, RPAR, it_loc]
      · intro r hr
        have hr' := (mem_foldsA.mp hr).1
        have e1 := bo_addtM PV.int r [v] (by rw [hr', sizeLine_eq]; show _ + 1 ≤ _; omega)
        simp only [List.map_cons, List.map_nil] at e1
        simp only [lcTurn, ↓toB, RU, Nat.reduceAdd, Nat.reduceSub, Nat.reduceLT, Nat.reduceLeDiff, Nat.reduceEqDiff, true_and, and_true, if_true, if_false, reduceIte, Bool.false_eq_true, reduceCtorEq, Int.reduceNeg, mthV_locG, RPAR, hv, e1]
      · rw [List.map_map]
        rfl
    have e1 := lc 1 (.con (.int 1)) (fun w => rfl)
    have e2 := lc (-1) (.neg (.con (.int 1))) (fun w => by simp only [↓toB, RU, Nat.reduceAdd, Nat.reduceSub, Nat.reduceLT, Nat.reduceLeDiff, Nat.reduceEqDiff, true_and, and_true, if_true, if_false, reduceIte, Bool.false_eq_true, reduceCtorEq, Int.reduceNeg, mthV_locG, RPAR])
    (apply run_step; · (simp only [↓toB, RU, Nat.reduceAdd, Nat.reduceSub, Nat.reduceLT, Nat.reduceLeDiff, Nat.reduceEqDiff, true_and, and_true, if_true, if_false, reduceIte, Bool.false_eq_true, reduceCtorEq, Int.reduceNeg, mthV_locG, RPAR, e1, e2, bo_addlM iT _ _ (show ((foldsA pre.length).map (· ++ [(1 : Int)])).length + ((foldsA pre.length).map (· ++ [(-1 : Int)])).length ≤ sizeLine by rw [List.length_map, List.length_map, sizeLine_eq]; omega)]; try ((with_reducible refine okE ?_); rfl)))
    refine run_nil ⟨rfl, some (.fz (.int (pre.length : Int))), ?_⟩
    rw [List.length_append]
    rfl
  · rintro e ⟨j2, rfl⟩
    rw [List.length_range]
    (apply run_ret; · (simp only [↓toB, RU, Nat.reduceAdd, Nat.reduceSub, Nat.reduceLT, Nat.reduceLeDiff, Nat.reduceEqDiff, true_and, and_true, if_true, if_false, reduceIte, Bool.false_eq_true, reduceCtorEq, Int.reduceNeg, mthV_locG, RPAR]; try ((with_reducible refine okE ?_); rfl)))
    · rfl
end PL
set_option Elab.async false
set_option linter.all false
set_option maxRecDepth 100000
set_option maxHeartbeats 2000000
namespace PL
open PySem PySem.Spec PyProof.Rows L2 K72
def goodP : PV → Bool
  | .int x => decide (x ∈ [(1 : Int), -1])
  | _ => false
theorem r_isf (n) (ns : List Int) (ps : List PV) (hp : ∀ p ∈ ps, (∃ i, p = .int i) ∨ (∃ b, p = .bl b)) (hl : ps.length = ns.length) : evF pg (n + 2) (.fn "is_folds") [.val (iT ns), .val (.tup ps)] = .ok (.val (.bl (ps.all goodP))) none := by
  rw [c_is_folds]
  simp only [↓toB, RU, Nat.reduceAdd, Nat.reduceSub, Nat.reduceLT, Nat.reduceLeDiff, Nat.reduceEqDiff, true_and, and_true, if_true, if_false, reduceIte, Bool.false_eq_true, reduceCtorEq, Int.reduceNeg, mthV_locG, RPAR, d_is_folds, List.length_map, hl, decide_true, v_lc]
  have e0 : ps = ps.map id := by simp
  have go : ∀ w : Env, w = [some (.fz (iT ns)), some (.fz (.tup ps)), none] → lcGo [2] (evTg (pg.sem (n + 1)) (.nm 2)) (ev (pg.sem (n + 1)) (.con (.bl true))).t (fun e1 => ((ev (pg.sem (n + 1)) (.and (.call "is_whole" (.cons (.var 2) .nil)) (.cmp .mem (.var 2) (.tup (.cons (.con (.int (1))) (.cons (.neg (.con (.int (1)))) .nil)))))).e e1).bind fun q => optR (take q.1 q.2)) (fun e1 => wipeE e1 [2]) (ps.map id) [] w = .ok (ps.map fun p => .bl (goodP p), w) := by
    intro w hw
    subst hw
    refine (lcGo_map (φ := id) (g := fun p => .bl (goodP p)) ps [] ?_).trans rfl
    intro p h
    have e1 := EqE.int.cMemT (by decide) 
    rcases hp p h with ⟨i, rfl⟩ | ⟨b, rfl⟩
    · have e1 := EqE.int.cMemT (by decide) i [1, -1]
      simp only [List.map_cons, List.map_nil] at e1
      simp only [lcTurn, ↓toB, RU, Nat.reduceAdd, Nat.reduceSub, Nat.reduceLT, Nat.reduceLeDiff, Nat.reduceEqDiff, true_and, and_true, if_true, if_false, reduceIte, Bool.false_eq_true, reduceCtorEq, Int.reduceNeg, mthV_locG, RPAR, id, r_wh_int, e1, goodP]
    · simp only [lcTurn, ↓toB, RU, Nat.reduceAdd, Nat.reduceSub, Nat.reduceLT, Nat.reduceLeDiff, Nat.reduceEqDiff, true_and, and_true, if_true, if_false, reduceIte, Bool.false_eq_true, reduceCtorEq, Int.reduceNeg, mthV_locG, RPAR, id, r_wh_bl, goodP]
  have g := go _ rfl
  rw [← e0] at g
  simp only [↓toB, RU, Nat.reduceAdd, Nat.reduceSub, Nat.reduceLT, Nat.reduceLeDiff, Nat.reduceEqDiff, true_and, and_true, if_true, if_false, reduceIte, Bool.false_eq_true, reduceCtorEq, Int.reduceNeg, mthV_locG, RPAR] at g
  simp only [iT] at g ⊢
  rw [g]
  have e2 : (ps.map goodP).all id = ps.all goodP := by rw [List.all_map]; rfl
  simp only [↓toB, RU, Nat.reduceAdd, Nat.reduceSub, Nat.reduceLT, Nat.reduceLeDiff, Nat.reduceEqDiff, true_and, and_true, if_true, if_false, reduceIte, Bool.false_eq_true, reduceCtorEq, Int.reduceNeg, mthV_locG, RPAR, asBls_map, e2]
theorem good_all {fs : List Int} (h : ∀ x ∈ fs, x = 1 ∨ x = -1) : (fs.map PV.int).all goodP = true := by
  rw [List.all_eq_true]
  intro p hp
  obtain ⟨x, hx, rfl⟩ := List.mem_map.mp hp
  rcases h x hx with rfl | rfl <;> rfl
theorem int_all (fs : List Int) : ∀ p ∈ fs.map PV.int, (∃ i, p = .int i) ∨ (∃ b, p = .bl b) := fun p hp => by
  obtain ⟨x, hx, rfl⟩ := List.mem_map.mp hp
  exact .inl ⟨x, rfl⟩
theorem r_isf_ok (n) {ns fs : List Int} (hl : fs.length = ns.length) (h : ∀ x ∈ fs, x = 1 ∨ x = -1) : evF pg (n + 2) (.fn "is_folds") [.val (iT ns), .val (iT fs)] = .ok (.val (.bl true)) none := by
  have := r_isf n ns (fs.map .int) (int_all fs) (by rw [List.length_map]; exact hl)
  rwa [good_all h] at this
theorem r_isf_non (n) (ns : List Int) : evF pg (n + 2) (.fn "is_folds") [.val (iT ns), .val .non] = .ok (.val (.bl false)) none := by
  rw [c_is_folds]
  simp only [↓toB, RU, Nat.reduceAdd, Nat.reduceSub, Nat.reduceLT, Nat.reduceLeDiff, Nat.reduceEqDiff, true_and, and_true, if_true, if_false, reduceIte, Bool.false_eq_true, reduceCtorEq, Int.reduceNeg, mthV_locG, RPAR, d_is_folds]
theorem r_isf_lst (n) (ns : List Int) (xs : List PV) : evF pg (n + 2) (.fn "is_folds") [.val (iT ns), .val (.lst xs)] = .ok (.val (.bl false)) none := by
  rw [c_is_folds]
  simp only [↓toB, RU, Nat.reduceAdd, Nat.reduceSub, Nat.reduceLT, Nat.reduceLeDiff, Nat.reduceEqDiff, true_and, and_true, if_true, if_false, reduceIte, Bool.false_eq_true, reduceCtorEq, Int.reduceNeg, mthV_locG, RPAR, d_is_folds]
theorem r_isf_len (n) (ns : List Int) (xs : List PV) (h : xs.length ≠ ns.length) : evF pg (n + 2) (.fn "is_folds") [.val (iT ns), .val (.tup xs)] = .ok (.val (.bl false)) none := by
  have e : decide ((xs.length : Int) = (ns.length : Int)) = false := decide_eq_false (by omega)
  rw [c_is_folds]
  simp only [↓toB, RU, Nat.reduceAdd, Nat.reduceSub, Nat.reduceLT, Nat.reduceLeDiff, Nat.reduceEqDiff, true_and, and_true, if_true, if_false, reduceIte, Bool.false_eq_true, reduceCtorEq, Int.reduceNeg, mthV_locG, RPAR, d_is_folds, List.length_map, e]
/-! reachable -/
def rws (room : Int) (ns : List Int) : List (List Int) := (List.range (ns.length + 1)).map fun k => rowR room (ns.take k)
theorem rws_len (room : Int) (ns : List Int) : (rws room ns).length = ns.length + 1 := by unfold rws; rw [List.length_map, List.length_range]
theorem rws_snoc (room : Int) (ns : List Int) (a : Int) : rws room (ns ++ [a]) = rws room ns ++ [rowR room (ns ++ [a])] := by
  unfold rws
  rw [List.length_append, List.length_singleton, List.range_succ, List.map_append]
  congr 1
  · apply List.map_congr_left
    intro k hk
    rw [List.take_append_of_le_length (by have := List.mem_range.mp hk; omega)]
  · rw [List.map_singleton, ← List.length_singleton (a := a), ← List.length_append, List.take_length]
theorem rws_get (room : Int) (ns : List Int) (k : Nat) (h : k ≤ ns.length) : (rws room ns)[k]? = some (rowR room (ns.take k)) := by
  unfold rws
  rw [List.getElem?_map, List.getElem?_range (by omega)]
  rfl
theorem rws_last (room : Int) (ns : List Int) : ∃ l, rws room ns = l ++ [rowR room ns] := by
  refine snocI (P := fun ns => ∃ l, rws room ns = l ++ [rowR room ns]) ⟨[], rfl⟩ (fun ns a _ => ⟨_, rws_snoc room ns a⟩) ns
theorem rws_at (room : Int) (ns : List Int) : atI ((rws room ns).map iT) (-1) = some (iT (rowR room ns)) := by
  obtain ⟨l, e⟩ := rws_last room ns
  rw [e, List.map_append]
  exact atI_last _ _
theorem len_row (room : Int) (hr : room ≤ 1000) (ns : List Int) : (rowR room ns).length ≤ 1001 * 2 ^ ns.length := by
  refine snocI (P := fun ns => (rowR room ns).length ≤ 1001 * 2 ^ ns.length) ?_ (fun ns a ih => ?_) ns
  · show (base room).length ≤ _
    unfold base
    rw [List.length_map, List.length_range]
    simp
    omega
  · rw [row_snoc, List.length_append, List.length_singleton, Nat.pow_succ]
    unfold stepR
    rw [len_sortI]
    have := len_stps (room := room) (a := a) (rowR room ns) []
    rw [List.length_nil] at this
    omega
theorem atL (ns : List Int) (k : Nat) (h : k < ns.length) : atI (ns.map PV.int) (k : Int) = some (.int ns[k]) := atM PV.int ns k h
theorem r_reach (n) {ns : List Int} {room : Int} (R : Rul ns) (h12 : ns.length ≤ 12) (hr : 0 ≤ room ∧ room ≤ 1000) : evF pg (n + 1) (.fn "reachable") [.val (iT ns), .val (.int room)] = .ok (.new (.lst ((rws room ns).map iT))) none := by
  rw [c_reachable]
  refine fn_new ⟨rfl, by decide⟩ rfl ?_
  show Run _ d_reachable.body [some (.fz (iT ns)), some (.fz (.int room)), none, none, none, none] _
  unfold d_reachable
  have b := fun env => rngI (room + 1) (by omega) env
  have e0 : (List.range (room + 1).toNat).map (fun (k : Nat) => PV.int (k : Int)) = (base room).map .int := by
    unfold base
    rw [List.map_map]
    rfl
  have sq : ∀ env, (ev (pg.sem n) (.seq "tuple" (.blt "range" (.cons (.bop .add (.var 1) (.con (.int (1)))) .nil)))).e (some (.fz (iT ns)) :: some (.fz (.int room)) :: env) = .ok (.val (iT (base room)), some (.fz (iT ns)) :: some (.fz (.int room)) :: env) := fun env => by
    show (((ev (pg.sem n) (.blt "range" (.cons (.bop .add (.var 1) (.con (.int (1)))) .nil))).i _).bind _) = _
    simp only [↓toB, RU, Nat.reduceAdd, Nat.reduceSub, Nat.reduceLT, Nat.reduceLeDiff, Nat.reduceEqDiff, true_and, and_true, if_true, if_false, reduceIte, Bool.false_eq_true, reduceCtorEq, Int.reduceNeg, mthV_locG, RPAR, b, e0]
  (apply run_step; · (simp only [↓toB, RU, Nat.reduceAdd, Nat.reduceSub, Nat.reduceLT, Nat.reduceLeDiff, Nat.reduceEqDiff, true_and, and_true, if_true, if_false, reduceIte, Bool.false_eq_true, reduceCtorEq, Int.reduceNeg, mthV_locG, RPAR, sq]; try ((with_reducible refine okE ?_); rfl)))
  refine run_for0 (φ := PV.int) (xs := ns) (fun pre e => ∃ j3 j4 j5, e = [some (.fz (iT ns)), some (.fz (.int room)), some (.lst ((rws room pre).map iT)), j3, j4, j5]) (p := .non) ?_ ⟨none, none, none, rfl⟩ ?_ ?_
  · (simp only [↓toB, RU, Nat.reduceAdd, Nat.reduceSub, Nat.reduceLT, Nat.reduceLeDiff, Nat.reduceEqDiff, true_and, and_true, if_true, if_false, reduceIte, Bool.false_eq_true, reduceCtorEq, Int.reduceNeg, mthV_locG, RPAR]; try ((with_reducible refine okE ?_); rfl))
  · rintro pre a post e he ⟨j3, j4, j5, rfl⟩
    have hl : pre.length < ns.length := by rw [he, List.length_append, List.length_cons]; omega
    refine ⟨[some (.fz (iT ns)), some (.fz (.int room)), some (.lst ((rws room pre).map iT)), some (.fz (.int a)), j4, j5], rfl, ?_⟩
    have dn : ∀ w, (ev (pg.sem n) (.dnew false)).e w = .ok (.new (.dct false (dkS κI [])), w) := fun w => rfl
    (apply run_step; · (simp only [↓toB, RU, Nat.reduceAdd, Nat.reduceSub, Nat.reduceLT, Nat.reduceLeDiff, Nat.reduceEqDiff, true_and, and_true, if_true, if_false, reduceIte, Bool.false_eq_true, reduceCtorEq, Int.reduceNeg, mthV_locG, RPAR, dn]; try ((with_reducible refine okE ?_); rfl)))
    have at1 := rws_at room pre
    have lr := len_row room hr.2 pre
    have p12 : 2 ^ pre.length ≤ 2 ^ 12 := Nat.pow_le_pow_right (by decide) (show pre.length ≤ 12 by omega)
    have p12' : 2 ^ 12 = 4096 := by decide
    refine run_for0 (φ := PV.int) (xs := rowR room pre) (fun pl e => ∃ j5, e = [some (.fz (iT ns)), some (.fz (.int room)), some (.lst ((rws room pre).map iT)), some (.fz (.int a)), some (.dct false (dkS κI (pl.foldl (stp room a) []))), j5]) (p := .non) ?_ ⟨j5, rfl⟩ ?_ ?_
    · (simp only [↓toB, RU, Nat.reduceAdd, Nat.reduceSub, Nat.reduceLT, Nat.reduceLeDiff, Nat.reduceEqDiff, true_and, and_true, if_true, if_false, reduceIte, Bool.false_eq_true, reduceCtorEq, Int.reduceNeg, mthV_locG, RPAR, at1]; try ((with_reducible refine okE ?_); rfl))
    · rintro pl p post2 e he2 ⟨j5, rfl⟩
      refine ⟨[some (.fz (iT ns)), some (.fz (.int room)), some (.lst ((rws room pre).map iT)), some (.fz (.int a)), some (.dct false (dkS κI (pl.foldl (stp room a) []))), some (.fz (.int p))], rfl, ?_⟩
      have l1 := len_stps (room := room) (a := a) pl []
      rw [List.length_nil] at l1
      have l2 : pl.length < (rowR room pre).length := by
        have := congrArg List.length he2
        rw [List.length_append, List.length_cons] at this
        omega
      have l3 : (pl.foldl (stp room a) []).length + 2 < sizeLine := by rw [sizeLine_eq]; omega
      have q1 := put_SI (pl.foldl (stp room a) []) (p + a) (by omega)
      have st1 : Run (pg.sem n) (.cons (.ite (.cmp .le (.bop .add (.var 5) (.var 3)) (.var 1)) (.cons (.asg (.ix (.var 4) (.bop .add (.var 5) (.var 3))) (.con (.bl true))) .nil) .nil) .nil)
          [some (.fz (iT ns)), some (.fz (.int room)), some (.lst ((rws room pre).map iT)), some (.fz (.int a)), some (.dct false (dkS κI (pl.foldl (stp room a) []))), some (.fz (.int p))]
          (fun f w => f = .nx ∧ w = [some (.fz (iT ns)), some (.fz (.int room)), some (.lst ((rws room pre).map iT)), some (.fz (.int a)), some (.dct false (dkS κI (put1 room a (pl.foldl (stp room a) []) p))), some (.fz (.int p))]) := by
        unfold put1
        by_cases c : p + a ≤ room
        · rw [if_pos c]
          (apply run_step; · (simp only [↓toB, RU, Nat.reduceAdd, Nat.reduceSub, Nat.reduceLT, Nat.reduceLeDiff, Nat.reduceEqDiff, true_and, and_true, if_true, if_false, reduceIte, Bool.false_eq_true, reduceCtorEq, Int.reduceNeg, mthV_locG, RPAR, decide_eq_true c, q1]; try ((with_reducible refine okE ?_); rfl)))
          exact run_nil ⟨rfl, rfl⟩
        · rw [if_neg c]
          (apply run_step; · (simp only [↓toB, RU, Nat.reduceAdd, Nat.reduceSub, Nat.reduceLT, Nat.reduceLeDiff, Nat.reduceEqDiff, true_and, and_true, if_true, if_false, reduceIte, Bool.false_eq_true, reduceCtorEq, Int.reduceNeg, mthV_locG, RPAR, decide_eq_false c]; try ((with_reducible refine okE ?_); rfl)))
          exact run_nil ⟨rfl, rfl⟩
      obtain ⟨f, w, e1, rfl, rfl⟩ := st1
      have e1' : ∀ {s : S} {w w'}, evSs (pg.sem n) (.cons s .nil) w = .ok (.nx, w') → evS (pg.sem n) s w = .ok (.nx, w') := fun {s w w'} h => by
        rw [ss_cons] at h
        cases h1 : evS (pg.sem n) s w with
        | stuck => rw [h1] at h; cases h
        | exc C fs e => rw [h1] at h; cases h
        | ok r =>
          obtain ⟨f, w2⟩ := r
          rw [h1, bind_ok] at h
          cases f with
          | nx => rw [ss_nil] at h; exact h
          | bk => cases h
          | ct => cases h
          | rt r => cases h
      refine run_step (e1' e1) ?_
      have l4 := len_addI (pl.foldl (stp room a) []) (p + a)
      have q2 := put_SI (put1 room a (pl.foldl (stp room a) []) p) (p - a) (by unfold put1; split <;> omega)
      have eq : (pl ++ [p]).foldl (stp room a) [] = put2 a (put1 room a (pl.foldl (stp room a) []) p) p := by rw [List.foldl_append]; rfl
      rw [eq]
      unfold put2
      by_cases c : 0 ≤ p - a
      · rw [if_pos c]
        (apply run_step; · (simp only [↓toB, RU, Nat.reduceAdd, Nat.reduceSub, Nat.reduceLT, Nat.reduceLeDiff, Nat.reduceEqDiff, true_and, and_true, if_true, if_false, reduceIte, Bool.false_eq_true, reduceCtorEq, Int.reduceNeg, mthV_locG, RPAR, decide_eq_true c, q2]; try ((with_reducible refine okE ?_); rfl)))
        exact run_nil ⟨rfl, _, rfl⟩
      · rw [if_neg c]
        (apply run_step; · (simp only [↓toB, RU, Nat.reduceAdd, Nat.reduceSub, Nat.reduceLT, Nat.reduceLeDiff, Nat.reduceEqDiff, true_and, and_true, if_true, if_false, reduceIte, Bool.false_eq_true, reduceCtorEq, Int.reduceNeg, mthV_locG, RPAR, decide_eq_false c]; try ((with_reducible refine okE ?_); rfl)))
        exact run_nil ⟨rfl, _, rfl⟩
    · rintro e ⟨j5', rfl⟩
      have s1 := srt_SI ((rowR room pre).foldl (stp room a) [])
      have a1 := mth_appM iT (rws room pre) (sortI ((rowR room pre).foldl (stp room a) [])) (by rw [rws_len, sizeLine_eq]; omega)
      (apply run_step; · (simp only [↓toB, RU, Nat.reduceAdd, Nat.reduceSub, Nat.reduceLT, Nat.reduceLeDiff, Nat.reduceEqDiff, true_and, and_true, if_true, if_false, reduceIte, Bool.false_eq_true, reduceCtorEq, Int.reduceNeg, mthV_locG, RPAR, s1, a1]; try ((with_reducible refine okE ?_); rfl)))
      refine run_nil ⟨rfl, some (.fz (.int a)), some (.dct false (dkS κI ((rowR room pre).foldl (stp room a) []))), j5', ?_⟩
      rw [rws_snoc, row_snoc]
      rfl
  · rintro e ⟨j3, j4, j5, rfl⟩
    (apply run_ret; · (simp only [↓toB, RU, Nat.reduceAdd, Nat.reduceSub, Nat.reduceLT, Nat.reduceLeDiff, Nat.reduceEqDiff, true_and, and_true, if_true, if_false, reduceIte, Bool.false_eq_true, reduceCtorEq, Int.reduceNeg, mthV_locG, RPAR]; try ((with_reducible refine okE ?_); rfl)))
    rfl
end PL
set_option Elab.async false
set_option linter.all false
set_option maxRecDepth 100000
set_option maxHeartbeats 2000000
namespace PL
open PySem PySem.Spec PyProof.Rows L2 K72
theorem con_mw : pg.con "MOST_WORK" = some (.int 200000) := by rfl
theorem rangeC_map (n : Nat) : rangeC ((n : Int) - 1) (-1) n = (List.range n).map fun (k : Nat) => PV.int ((n : Int) - 1 - (k : Int)) := by
  have : ∀ (n : Nat) (lo : Int), rangeC lo (-1) n = (List.range n).map fun (k : Nat) => PV.int (lo - (k : Int)) := by
    intro n
    induction n with
    | zero => intro lo; rfl
    | succ n ih =>
      intro lo
      show PV.int lo :: rangeC (lo + -1) (-1) n = _
      rw [ih, List.range_succ_eq_map, List.map_cons, List.map_map]
      congr 1
      · simp
      · apply List.map_congr_left
        intro k _
        show PV.int (lo + -1 - (k : Int)) = PV.int (lo - ((k + 1 : Nat) : Int))
        congr 1
        push_cast
        omega
  exact this n _
theorem rngC (n : Nat) (h : n ≤ 1000) (env : Env) : rngB ([.val (.int ((n : Int) - 1)), .val (.int (-1)), .val (.int (-1))], env) = .ok (((List.range n).map fun (k : Nat) => PV.int ((n : Int) - 1 - (k : Int)), .val .non), env) := by
  have hb : bnd ((n : Int) - 1) ∧ bnd (-1) ∧ (-1 : Int) = -1 ∧ ((n : Int) - 1 - -1).toNat ≤ sizeLine := by
    refine ⟨?_, ?_, rfl, ?_⟩
    · unfold bnd; omega
    · unfold bnd; omega
    · rw [sizeLine_eq]; omega
  have hn : ((n : Int) - 1 - -1).toNat = n := by omega
  show (if bnd ((n : Int) - 1) ∧ bnd (-1) ∧ (-1 : Int) = -1 ∧ ((n : Int) - 1 - -1).toNat ≤ sizeLine then Res.ok ((rangeC ((n : Int) - 1) (-1) ((n : Int) - 1 - -1).toNat, RV.val .non), env) else .stuck) = _
  rw [if_pos hb, hn, rangeC_map]
theorem take_rev (ns : List Int) (k : Nat) (hk : k < ns.length) : (ns.take (k + 1)).reverse = ns[k] :: (ns.take k).reverse := by
  rw [List.take_succ, List.getElem?_eq_getElem hk]
  simp
theorem r_fw (n) {ns : List Int} {room : Int} (R : Rul ns) (h12 : ns.length ≤ 12) (hr : 0 ≤ room ∧ room ≤ 1000) : evF pg (n + 3) (.fn "folds_within") [.val (iT ns), .val (.int room)] = .ok (.val (if rowR room ns = [] then .non else iT (foldsW room ns))) none := by
  have l := r_look n ns R.n0 R.n40 R.pos
  have e1 := r_wh_int (n + 1) room
  have e2 := r_reach (n + 1) R h12 hr
  have mm : mulOk (room + 1) (ns.length : Int) = true := small_mul (by omega) (by omega)
  have c1 : decide (room < 0) = false := decide_eq_false (by omega)
  have c2 : decide (200000 < (room + 1) * (ns.length : Int)) = false := by
    rw [decide_eq_false_iff_not]
    have : (room + 1) * (ns.length : Int) ≤ 1001 * 12 := Int.mul_le_mul (by omega) (by omega) (by omega) (by omega)
    omega
  have at1 := rws_at room ns
  rw [c_folds_within]
  refine fn_val ⟨rfl, by decide⟩ rfl ?_
  show Run _ d_folds_within.body [some (.fz (iT ns)), some (.fz (.int room)), none, none, none, none, none] _
  unfold d_folds_within
  (apply run_step; · (simp only [↓toB, RU, Nat.reduceAdd, Nat.reduceSub, Nat.reduceLT, Nat.reduceLeDiff, Nat.reduceEqDiff, true_and, and_true, if_true, if_false, reduceIte, Bool.false_eq_true, reduceCtorEq, Int.reduceNeg, mthV_locG, RPAR, l]; try ((with_reducible refine okE ?_); rfl)))
  (apply run_step; · (simp only [↓toB, RU, Nat.reduceAdd, Nat.reduceSub, Nat.reduceLT, Nat.reduceLeDiff, Nat.reduceEqDiff, true_and, and_true, if_true, if_false, reduceIte, Bool.false_eq_true, reduceCtorEq, Int.reduceNeg, mthV_locG, RPAR, e1, c1, List.length_map, bo_mul _ _ mm, con_mw, c2]; try ((with_reducible refine okE ?_); rfl)))
  (apply run_step; · (simp only [↓toB, RU, Nat.reduceAdd, Nat.reduceSub, Nat.reduceLT, Nat.reduceLeDiff, Nat.reduceEqDiff, true_and, and_true, if_true, if_false, reduceIte, Bool.false_eq_true, reduceCtorEq, Int.reduceNeg, mthV_locG, RPAR, e2]; try ((with_reducible refine okE ?_); rfl)))
  by_cases z : rowR room ns = []
  · rw [if_pos z]
    have at2 : atI ((rws room ns).map iT) (-1) = some (iT []) := by rw [at1, z]
    apply run_if (c := true)
    · (simp only [↓toB, RU, Nat.reduceAdd, Nat.reduceSub, Nat.reduceLT, Nat.reduceLeDiff, Nat.reduceEqDiff, true_and, and_true, if_true, if_false, reduceIte, Bool.false_eq_true, reduceCtorEq, Int.reduceNeg, mthV_locG, RPAR, at2, List.length_map]; try ((with_reducible refine okE ?_); rfl))
    · show Run _ (.cons (.ret (.con .non)) .nil) _ _
      (apply run_ret; · (simp only [↓toB, RU, Nat.reduceAdd, Nat.reduceSub, Nat.reduceLT, Nat.reduceLeDiff, Nat.reduceEqDiff, true_and, and_true, if_true, if_false, reduceIte, Bool.false_eq_true, reduceCtorEq, Int.reduceNeg, mthV_locG, RPAR]; try ((with_reducible refine okE ?_); rfl)))
      exact .inr ⟨by simp, rfl⟩
  · rw [if_neg z]
    obtain ⟨h0, tl, ht⟩ : ∃ h0 tl, rowR room ns = h0 :: tl := by
      cases e : rowR room ns with
      | nil => exact absurd e z
      | cons a r => exact ⟨a, r, rfl⟩
    have at2 : atI ((rws room ns).map iT) (-1) = some (iT (h0 :: tl)) := by rw [at1, ht]
    have c3 : decide (((tl.length + 1 : Nat) : Int) = 0) = false := decide_eq_false (by omega)
    have at3 : atI (PV.int h0 :: tl.map PV.int) 0 = some (.int h0) := atM PV.int (h0 :: tl) 0 (by simp)
    (apply run_step; · (simp only [↓toB, RU, Nat.reduceAdd, Nat.reduceSub, Nat.reduceLT, Nat.reduceLeDiff, Nat.reduceEqDiff, true_and, and_true, if_true, if_false, reduceIte, Bool.false_eq_true, reduceCtorEq, Int.reduceNeg, mthV_locG, RPAR, at2, List.length_map, c3]; try ((with_reducible refine okE ?_); rfl)))
    (apply run_step; · (simp only [↓toB, RU, Nat.reduceAdd, Nat.reduceSub, Nat.reduceLT, Nat.reduceLeDiff, Nat.reduceEqDiff, true_and, and_true, if_true, if_false, reduceIte, Bool.false_eq_true, reduceCtorEq, Int.reduceNeg, mthV_locG, RPAR, at2, at3]; try ((with_reducible refine okE ?_); rfl)))
    (apply run_step; · (simp only [↓toB, RU, Nat.reduceAdd, Nat.reduceSub, Nat.reduceLT, Nat.reduceLeDiff, Nat.reduceEqDiff, true_and, and_true, if_true, if_false, reduceIte, Bool.false_eq_true, reduceCtorEq, Int.reduceNeg, mthV_locG, RPAR]; try ((with_reducible refine okE ?_); rfl)))
    have b := fun env => rngC ns.length (by omega) env
    refine run_for0 (φ := fun k : Nat => PV.int ((ns.length : Int) - 1 - (k : Int))) (xs := List.range ns.length) (fun pre e => ∃ h fs j5 j6, e = [some (.fz (iT ns)), some (.fz (.int room)), some (.lst ((rws room ns).map iT)), some (.fz (.int h)), some (.lst (fs.map .int)), j5, j6] ∧ fs.length = pre.length ∧ fs ++ bk room (ns.take (ns.length - pre.length)).reverse h = bk room ns.reverse h0) (p := .non) ?_ ⟨h0, [], none, none, rfl, rfl, by simp⟩ ?_ ?_
    · (simp only [↓toB, RU, Nat.reduceAdd, Nat.reduceSub, Nat.reduceLT, Nat.reduceLeDiff, Nat.reduceEqDiff, true_and, and_true, if_true, if_false, reduceIte, Bool.false_eq_true, reduceCtorEq, Int.reduceNeg, mthV_locG, RPAR, List.length_map, b]; try ((with_reducible refine okE ?_); rfl))
    · rintro pre x post e he ⟨h, fs, j5, j6, rfl, hf, eq⟩
      obtain ⟨rfl, hx⟩ := range_split he
      have hk : ns.length - 1 - pre.length < ns.length := by omega
      have ei : (ns.length : Int) - 1 - (pre.length : Int) = ((ns.length - 1 - pre.length : Nat) : Int) := by omega
      have e3 := atL ns (ns.length - 1 - pre.length) hk
      have e4 : atI ((rws room ns).map iT) ((ns.length - 1 - pre.length : Nat) : Int) = some (iT (rowR room (ns.take (ns.length - 1 - pre.length)))) := by
        refine ix_at ?_
        rw [List.getElem?_map, rws_get room ns _ (by omega)]
        rfl
      have e5 := EqE.int.cMemT (by decide) (h - ns[ns.length - 1 - pre.length]) (rowR room (ns.take (ns.length - 1 - pre.length)))
      have ha := R.pos _ (List.getElem_mem hk)
      have ha2 := R.small _ (List.getElem_mem hk)
      have sd := side_or room ns[ns.length - 1 - pre.length] (ns.take (ns.length - 1 - pre.length)).reverse h
      have mm := pm_small sd ha ha2
      have a1 := mth_appM PV.int fs (sideOf room ns[ns.length - 1 - pre.length] (ns.take (ns.length - 1 - pre.length)).reverse h) (by rw [sizeLine_eq]; omega)
      have sv : (match decide (h - ns[ns.length - 1 - pre.length] ∈ rowR room (ns.take (ns.length - 1 - pre.length))) with | true => PV.int 1 | false => PV.int (-1)) = .int (sideOf room ns[ns.length - 1 - pre.length] (ns.take (ns.length - 1 - pre.length)).reverse h) := by
        unfold sideOf
        rw [List.reverse_reverse]
        by_cases c : h - ns[ns.length - 1 - pre.length] ∈ rowR room (ns.take (ns.length - 1 - pre.length))
        · rw [decide_eq_true c, if_pos c]
        · rw [decide_eq_false c, if_neg c]
      refine ⟨[some (.fz (iT ns)), some (.fz (.int room)), some (.lst ((rws room ns).map iT)), some (.fz (.int h)), some (.lst (fs.map .int)), some (.fz (.int ((ns.length - 1 - pre.length : Nat) : Int))), j6], by rw [ei]; rfl, ?_⟩
      refine run_step (w' := [some (.fz (iT ns)), some (.fz (.int room)), some (.lst ((rws room ns).map iT)), some (.fz (.int h)), some (.lst (fs.map .int)), some (.fz (.int ((ns.length - 1 - pre.length : Nat) : Int))), some (.fz (.int (sideOf room ns[ns.length - 1 - pre.length] (ns.take (ns.length - 1 - pre.length)).reverse h)))]) ?_ ?_
      · rw [← sv]
        by_cases c : h - ns[ns.length - 1 - pre.length] ∈ rowR room (ns.take (ns.length - 1 - pre.length))
        · simp only [↓toB, RU, Nat.reduceAdd, Nat.reduceSub, Nat.reduceLT, Nat.reduceLeDiff, Nat.reduceEqDiff, true_and, and_true, if_true, if_false, reduceIte, Bool.false_eq_true, reduceCtorEq, Int.reduceNeg, mthV_locG, RPAR, e3, e4, e5, decide_eq_true c]
        · simp only [↓toB, RU, Nat.reduceAdd, Nat.reduceSub, Nat.reduceLT, Nat.reduceLeDiff, Nat.reduceEqDiff, true_and, and_true, if_true, if_false, reduceIte, Bool.false_eq_true, reduceCtorEq, Int.reduceNeg, mthV_locG, RPAR, e3, e4, e5, decide_eq_false c]
      (apply run_step; · (simp only [↓toB, RU, Nat.reduceAdd, Nat.reduceSub, Nat.reduceLT, Nat.reduceLeDiff, Nat.reduceEqDiff, true_and, and_true, if_true, if_false, reduceIte, Bool.false_eq_true, reduceCtorEq, Int.reduceNeg, mthV_locG, RPAR, a1]; try ((with_reducible refine okE ?_); rfl)))
      (apply run_step; · (simp only [↓toB, RU, Nat.reduceAdd, Nat.reduceSub, Nat.reduceLT, Nat.reduceLeDiff, Nat.reduceEqDiff, true_and, and_true, if_true, if_false, reduceIte, Bool.false_eq_true, reduceCtorEq, Int.reduceNeg, mthV_locG, RPAR, e3, bo_mul _ _ mm]; try ((with_reducible refine okE ?_); rfl)))
      refine run_nil ⟨rfl, _, _, _, _, rfl, by rw [List.length_append, List.length_append, hf]; rfl, ?_⟩
      rw [← eq, List.length_append, List.length_singleton]
      have e6 : ns.length - pre.length = (ns.length - 1 - pre.length) + 1 := by omega
      have e7 : ns.length - (pre.length + 1) = ns.length - 1 - pre.length := by omega
      rw [e6, e7, take_rev ns _ hk, List.append_assoc]
      rfl
    · rintro e ⟨h, fs, j5, j6, rfl, hf, eq⟩
      rw [List.length_range, Nat.sub_self] at eq
      have eq2 : fs = bk room ns.reverse h0 := by
        rw [← eq]
        show fs = fs ++ []
        rw [List.append_nil]
      (apply run_ret; · (simp only [↓toB, RU, Nat.reduceAdd, Nat.reduceSub, Nat.reduceLT, Nat.reduceLeDiff, Nat.reduceEqDiff, true_and, and_true, if_true, if_false, reduceIte, Bool.false_eq_true, reduceCtorEq, Int.reduceNeg, mthV_locG, RPAR]; try ((with_reducible refine okE ?_); rfl)))
      rw [eq2]
      show _ = Fl.rt (.val (.tup ((bk room ns.reverse ((rowR room ns).headD 0)).reverse.map .int)))
      rw [ht, List.map_reverse]
      rfl
theorem r_least (n) {ns : List Int} (R : Rul ns) (h12 : ns.length ≤ 12) (h100 : ∀ x ∈ ns, x ≤ 100) : evF pg (n + 4) (.fn "least_room") [.val (iT ns)] = .ok (.val (.tup [.int (due ns), iT (foldsW (due ns) ns)])) none := by
  have l := r_look (n + 1) ns R.n0 R.n40 R.pos
  have m0 := R.pos _ (mx_mem R.n0)
  have m1 := h100 _ (mx_mem R.n0)
  have dg := due_ge R.n0
  have dl := due_lt R.n0 R.pos
  have mm : mulOk 2 (mx ns) = true := small_mul (by decide) (by omega)
  rw [c_least_room]
  refine fn_val ⟨rfl, by decide⟩ rfl ?_
  show Run _ d_least_room.body [some (.fz (iT ns)), none, none] _
  unfold d_least_room
  (apply run_step; · (simp only [↓toB, RU, Nat.reduceAdd, Nat.reduceSub, Nat.reduceLT, Nat.reduceLeDiff, Nat.reduceEqDiff, true_and, and_true, if_true, if_false, reduceIte, Bool.false_eq_true, reduceCtorEq, Int.reduceNeg, mthV_locG, RPAR, l]; try ((with_reducible refine okE ?_); rfl)))
  have em : mx ns = ((mx ns).toNat : Int) := by omega
  have em2 : 2 * mx ns = ((2 * (mx ns).toNat : Nat) : Int) := by omega
  have b : ∀ env, rngB ([.val (.int (mx ns)), .val (.int (2 * mx ns))], env) = .ok (((List.range (mx ns).toNat).map fun (k : Nat) => PV.int (mx ns + (k : Int)), .val .non), env) := fun env => by
    have := rngNN (mx ns).toNat (2 * (mx ns).toNat) env (by omega) (by omega)
    rw [← em2, ← em] at this
    rw [this, show 2 * (mx ns).toNat - (mx ns).toNat = (mx ns).toNat by omega]
    have : (List.range (mx ns).toNat).map (fun (k : Nat) => PV.int (((mx ns).toNat + k : Nat) : Int)) = (List.range (mx ns).toNat).map fun (k : Nat) => PV.int (mx ns + (k : Int)) := by
      apply List.map_congr_left
      intro k _
      congr 1
      omega
    rw [this]
  refine run_for (φ := fun k : Nat => PV.int (mx ns + (k : Int))) (xs := List.range (mx ns).toNat) (fun pre e => ∃ j1 j2, e = [some (.fz (iT ns)), j1, j2] ∧ ∀ k : Nat, k < pre.length → ¬ due ns ≤ mx ns + (k : Int)) (p := .non) ?_ ⟨none, none, rfl, fun k h => absurd h (Nat.not_lt_zero k)⟩ ?_ ?_
  · (simp only [↓toB, RU, Nat.reduceAdd, Nat.reduceSub, Nat.reduceLT, Nat.reduceLeDiff, Nat.reduceEqDiff, true_and, and_true, if_true, if_false, reduceIte, Bool.false_eq_true, reduceCtorEq, Int.reduceNeg, mthV_locG, RPAR, bl_mxT R.n0, bo_mul _ _ mm, b]; try ((with_reducible refine okE ?_); rfl))
  · rintro pre x post e he ⟨j1, j2, rfl, hk⟩
    obtain ⟨rfl, hx⟩ := range_split he
    have fw := r_fw n R h12 (room := mx ns + (pre.length : Int)) (by omega)
    have ri := row_iff (room := mx ns + (pre.length : Int)) (by omega) R.pos
    refine ⟨[some (.fz (iT ns)), some (.fz (.int (mx ns + (pre.length : Int)))), j2], rfl, ?_⟩
    (apply run_step; · (simp only [↓toB, RU, Nat.reduceAdd, Nat.reduceSub, Nat.reduceLT, Nat.reduceLeDiff, Nat.reduceEqDiff, true_and, and_true, if_true, if_false, reduceIte, Bool.false_eq_true, reduceCtorEq, Int.reduceNeg, mthV_locG, RPAR, fw]; try ((with_reducible refine okE ?_); rfl)))
    by_cases z : rowR (mx ns + (pre.length : Int)) ns = []
    · rw [if_pos z]
      (apply run_step; · (simp only [↓toB, RU, Nat.reduceAdd, Nat.reduceSub, Nat.reduceLT, Nat.reduceLeDiff, Nat.reduceEqDiff, true_and, and_true, if_true, if_false, reduceIte, Bool.false_eq_true, reduceCtorEq, Int.reduceNeg, mthV_locG, RPAR]; try ((with_reducible refine okE ?_); rfl)))
      refine run_nil (.inl ⟨.inl rfl, _, _, rfl, fun k h => ?_⟩)
      rw [List.length_append, List.length_singleton] at h
      by_cases h2 : k < pre.length
      · exact hk k h2
      · obtain rfl : k = pre.length := by omega
        exact fun h3 => ri.mpr h3 z
    · rw [if_neg z]
      have d1 := ri.mp z
      have d2 : due ns = mx ns + (pre.length : Int) := by
        rcases Nat.eq_zero_or_pos pre.length with h | h
        · omega
        · have := hk (pre.length - 1) (by omega); omega
      apply run_if (c := true)
      · (simp only [↓toB, RU, Nat.reduceAdd, Nat.reduceSub, Nat.reduceLT, Nat.reduceLeDiff, Nat.reduceEqDiff, true_and, and_true, if_true, if_false, reduceIte, Bool.false_eq_true, reduceCtorEq, Int.reduceNeg, mthV_locG, RPAR]; try ((with_reducible refine okE ?_); rfl))
      · show Run _ (.cons (.ret (.tup (.cons (.var 1) (.cons (.var 2) .nil)))) .nil) _ _
        (apply run_ret; · (simp only [↓toB, RU, Nat.reduceAdd, Nat.reduceSub, Nat.reduceLT, Nat.reduceLeDiff, Nat.reduceEqDiff, true_and, and_true, if_true, if_false, reduceIte, Bool.false_eq_true, reduceCtorEq, Int.reduceNeg, mthV_locG, RPAR]; try ((with_reducible refine okE ?_); rfl)))
        refine .inr ⟨by simp, .inr (.inr ⟨_, rfl, ?_⟩)⟩
        rw [d2]
  · rintro e ⟨j1, j2, rfl, hk⟩
    rw [List.length_range] at hk
    have := hk (due ns - mx ns).toNat (by omega)
    omega
theorem look_fw (n) (p q : PV) (h : evF pg (n + 2) (.fn "look_at_ruler") [.val p] = .exc "Refused" [("word", .str "ruler")]) : evF pg (n + 4) (.fn "_law_refused") [.val p, .val q] = .ok (.val (.str "ruler")) none := by
  have h1 : evF pg (n + 3) (.fn "folds_within") [.val p, .val q] = .exc "Refused" [("word", .str "ruler")] := by
    rw [c_folds_within]
    simp only [↓toB, RU, Nat.reduceAdd, Nat.reduceSub, Nat.reduceLT, Nat.reduceLeDiff, Nat.reduceEqDiff, true_and, and_true, if_true, if_false, reduceIte, Bool.false_eq_true, reduceCtorEq, Int.reduceNeg, mthV_locG, RPAR, d_folds_within, h]
  rw [c__law_refused]
  simp only [↓toB, RU, Nat.reduceAdd, Nat.reduceSub, Nat.reduceLT, Nat.reduceLeDiff, Nat.reduceEqDiff, true_and, and_true, if_true, if_false, reduceIte, Bool.false_eq_true, reduceCtorEq, Int.reduceNeg, mthV_locG, RPAR, d__law_refused, s_tri, h1]
  rfl
theorem ref_neg (n) {ns : List Int} (R : Rul ns) : evF pg (n + 4) (.fn "_law_refused") [.val (iT ns), .val (.int (-1))] = .ok (.val (.str "room")) none := by
  have l := r_look n ns R.n0 R.n40 R.pos
  have e1 := r_wh_int (n + 1) (-1)
  have c : decide ((-1 : Int) < 0) = true := by decide
  have h1 : evF pg (n + 3) (.fn "folds_within") [.val (iT ns), .val (.int (-1))] = .exc "Refused" [("word", .str "room")] := by
    rw [c_folds_within]
    simp only [↓toB, RU, Nat.reduceAdd, Nat.reduceSub, Nat.reduceLT, Nat.reduceLeDiff, Nat.reduceEqDiff, true_and, and_true, if_true, if_false, reduceIte, Bool.false_eq_true, reduceCtorEq, Int.reduceNeg, mthV_locG, RPAR, d_folds_within, l, e1, c]
  rw [c__law_refused]
  simp only [↓toB, RU, Nat.reduceAdd, Nat.reduceSub, Nat.reduceLT, Nat.reduceLeDiff, Nat.reduceEqDiff, true_and, and_true, if_true, if_false, reduceIte, Bool.false_eq_true, reduceCtorEq, Int.reduceNeg, mthV_locG, RPAR, d__law_refused, s_tri, h1]
  rfl
theorem ref_x (n) {ns : List Int} (R : Rul ns) : evF pg (n + 4) (.fn "_law_refused") [.val (iT ns), .val (.str "x")] = .ok (.val (.str "room")) none := by
  have l := r_look n ns R.n0 R.n40 R.pos
  have e1 := r_wh_str (n + 1) "x"
  have h1 : evF pg (n + 3) (.fn "folds_within") [.val (iT ns), .val (.str "x")] = .exc "Refused" [("word", .str "room")] := by
    rw [c_folds_within]
    simp only [↓toB, RU, Nat.reduceAdd, Nat.reduceSub, Nat.reduceLT, Nat.reduceLeDiff, Nat.reduceEqDiff, true_and, and_true, if_true, if_false, reduceIte, Bool.false_eq_true, reduceCtorEq, Int.reduceNeg, mthV_locG, RPAR, d_folds_within, l, e1]
  rw [c__law_refused]
  simp only [↓toB, RU, Nat.reduceAdd, Nat.reduceSub, Nat.reduceLT, Nat.reduceLeDiff, Nat.reduceEqDiff, true_and, and_true, if_true, if_false, reduceIte, Bool.false_eq_true, reduceCtorEq, Int.reduceNeg, mthV_locG, RPAR, d__law_refused, s_tri, h1]
  rfl
end PL
set_option Elab.async false
set_option linter.all false
set_option maxRecDepth 100000
set_option maxHeartbeats 4000000
namespace PL
open PySem PySem.Spec PyProof.Rows L2 K72
noncomputable abbrev T40 : Sem := pg.sem 40
theorem r_draw (n) {d : DS} {L : Int} (hd : d.ok) (hL : 1 ≤ L ∧ L ≤ 1000000) : evF pg (n + 1) (.fn "_law_draw") [.own (.lst [.lst (d.xs.map .int), .int d.pos, .int d.big, .int d.seed]), .val (.int L)] = .ok (.val (.int (drawV d L))) (some (cellD (drawS d L))) := by
  rw [c__law_draw]
  exact draw_run _ hd hL
theorem at2' (v : Int) (h : 0 ≤ v ∧ v < 2) : ∃ m : Int, atI [PV.int 4, .int 12] v = some (.int m) ∧ 1 ≤ m ∧ m ≤ 12 := by
  have : v = 0 ∨ v = 1 := by omega
  rcases this with rfl | rfl
  · exact ⟨4, rfl, by decide⟩
  · exact ⟨12, rfl, by decide⟩
def eRul0 : E := .blt "range" (.cons (.bop .add (.con (.int (1))) (.calm "_law_draw" 1 (.cons (.con (.int (8))) .nil))) .nil)
def eRul1 : E := .bop .add (.con (.int (1))) (.calm "_law_draw" 1 (.cons (.ix (.lst (.cons (.con (.int (4))) (.cons (.con (.int (12))) .nil))) (.calm "_law_draw" 1 (.cons (.con (.int (2))) .nil))) .nil))
structure Turn (ns : List Int) : Prop where
  n0 : 0 < ns.length
  n8 : ns.length ≤ 8
  rng : ∀ x ∈ ns, 1 ≤ x ∧ x ≤ 12
theorem Turn.rul {ns : List Int} (t : Turn ns) : Rul ns := ⟨t.n0, by have := t.n8; omega, fun x hx => by have := t.rng x hx; omega, fun x hx => by have := t.rng x hx; omega⟩
section
variable {x0 x2 x3 x4 x5 x6 x7 x8 x9 x10 x11 x12 x13 : Option Cell}
theorem t1 {d : DS} (hd : d.ok) (h8 : PJ x8) : ∃ (ns : List Int) (d' : DS), evS T40 s_law_2_1 [x0, some (cellD d), x2, x3, x4, x5, x6, x7, x8, x9, x10, x11, x12, x13] = .ok (.nx, [x0, some (cellD d'), x2, some (.fz (iT ns)), x4, x5, x6, x7, x8, x9, x10, x11, x12, x13]) ∧ d'.ok ∧ Turn ns := by
  have b1 := draw_rng hd (L := 8) (by decide)
  have k1 := draw_ok hd (L := 8) (by decide)
  have e1 := r_draw 39 hd (L := 8) (by decide)
  have er := fun env => rngI (1 + drawV d 8) (by omega) env
  obtain ⟨bs, d', h1, h2, h3, h4⟩ := lc_ex (F := T40) (own := [8]) (t := .nm 8) (it := eRul0) (c := .con (.bl true)) (e := eRul1) (env := [x0, some (cellD d), x2, x3, x4, x5, x6, x7, x8, x9, x10, x11, x12, x13]) (env1 := [x0, some (cellD (drawS d 8)), x2, x3, x4, x5, x6, x7, x8, x9, x10, x11, x12, x13])
    (φ := fun k : Nat => PV.int (k : Int)) (ψ := PV.int) (R := fun x : Int => 1 ≤ x ∧ x ≤ 12) (I := DS.ok) (W := fun s => [x0, some (cellD s), x2, x3, x4, x5, x6, x7, none, x9, x10, x11, x12, x13]) (r := .val .non)
    (xs := List.range (1 + drawV d 8).toNat) (s := drawS d 8) (by
      simp only [cellD, Nat.reduceAdd] at e1 ⊢
      simp only [↓toB, RU, Nat.reduceAdd, Nat.reduceSub, Nat.reduceLT, Nat.reduceLeDiff, Nat.reduceEqDiff, true_and, and_true, if_true, if_false, reduceIte, Bool.false_eq_true, reduceCtorEq, Int.reduceNeg, mthV_locG, RPAR, eRul0, e1, er]) (pl1 (i := 8) h8) rfl k1 (fun a _ s hs => by
      have c1 := draw_rng hs (L := 2) (by decide)
      have c2 := draw_ok hs (L := 2) (by decide)
      have c3 := r_draw 39 hs (L := 2) (by decide)
      obtain ⟨m, c4, c5, c6⟩ := at2' _ c1
      have c7 := r_draw 39 c2 (L := m) (by omega)
      have c8 := draw_rng c2 (L := m) (by omega)
      refine ⟨1 + drawV (drawS s 2) m, drawS (drawS s 2) m, ?_, by omega, draw_ok c2 (by omega)⟩
      simp only [cellD, Nat.reduceAdd] at c3 c7 ⊢
      simp only [lcTurn, ↓toB, RU, Nat.reduceAdd, Nat.reduceSub, Nat.reduceLT, Nat.reduceLeDiff, Nat.reduceEqDiff, true_and, and_true, if_true, if_false, reduceIte, Bool.false_eq_true, reduceCtorEq, Int.reduceNeg, mthV_locG, RPAR, eRul1, c3, c4, c7])
  refine ⟨bs, d', ?_, h4, ?_, ?_, h3⟩
  · have h0 : s_law_2_1 = .asg (.nm 3) (.blt "tuple" (.cons (.lc [8] (.nm 8) eRul0 (.con (.bl true)) eRul1) .nil)) := rfl
    rw [h0]
    simp only [↓toB, RU, Nat.reduceAdd, Nat.reduceSub, Nat.reduceLT, Nat.reduceLeDiff, Nat.reduceEqDiff, true_and, and_true, if_true, if_false, reduceIte, Bool.false_eq_true, reduceCtorEq, Int.reduceNeg, mthV_locG, RPAR, h1]
  · rw [h2, List.length_range]; omega
  · rw [h2, List.length_range]; omega
def eLens : E := .lc [12] (.nm 12) (.var 4) (.con (.bl true)) (.call "_law_length" (.cons (.var 3) (.cons (.var 12) .nil)))
theorem r_lens {ns : List Int} (t : Turn ns) (h12 : PJ x12) {x1 : Option Cell} : (ev T40 eLens).e [x0, x1, x2, some (.fz (iT ns)), some (.lst ((foldsA ns.length).map iT)), x5, x6, x7, x8, x9, x10, x11, x12, x13] = .ok (.new (.lst (((foldsA ns.length).map (lawLen ns)).map .int)), [x0, x1, x2, some (.fz (iT ns)), some (.lst ((foldsA ns.length).map iT)), x5, x6, x7, x8, x9, x10, x11, x12, x13]) := by
  refine (lc_map (φ := iT) (g := fun fs => .int (lawLen ns fs)) (xs := foldsA ns.length) (env1 := [x0, x1, x2, some (.fz (iT ns)), none, x5, x6, x7, x8, x9, x10, x11, x12, x13]) (w := [x0, x1, x2, some (.fz (iT ns)), none, x5, x6, x7, x8, x9, x10, x11, none, x13]) (r := .brw 4 [] (.lst ((foldsA ns.length).map iT))) ?_ (pl1 (i := 12) h12) rfl ?_).trans ?_
  · simp only [↓toB, RU, Nat.reduceAdd, Nat.reduceSub, Nat.reduceLT, Nat.reduceLeDiff, Nat.reduceEqDiff, true_and, and_true, if_true, if_false, reduceIte, Bool.false_eq_true, reduceCtorEq, Int.reduceNeg, mthV_locG, RPAR, it_loc]
  · intro fs hfs
    obtain ⟨h1, h2⟩ := mem_foldsA.mp hfs
    have e := r_len 39 t.rul h1 h2
    simp only [Nat.reduceAdd] at e
    simp only [lcTurn, ↓toB, RU, Nat.reduceAdd, Nat.reduceSub, Nat.reduceLT, Nat.reduceLeDiff, Nat.reduceEqDiff, true_and, and_true, if_true, if_false, reduceIte, Bool.false_eq_true, reduceCtorEq, Int.reduceNeg, mthV_locG, RPAR, e]
  · rw [List.map_map]
    rfl
end
def l41 : List PV := List.replicate 41 (.int 1)
theorem room_ok {ns : List Int} (t : Turn ns) : 0 < mx ns ∧ mx ns ≤ 12 := by
  have := t.rng _ (mx_mem t.n0)
  omega
theorem rng4 (env : Env) : rngB ([.val (.int 4)], env) = .ok (((List.range 4).map fun (k : Nat) => PV.int (k : Int), .val .non), env) := by
  rw [show (4 : Int) = ((4 : Nat) : Int) from rfl]
  exact rngN 4 env (by omega)
def LInv (x0 : Option Cell) (env : Env) : Prop := ∃ (d : DS) (x2 x3 x4 x5 x6 x7 x8 x9 x10 x11 x12 x13 : Option Cell), env = [x0, some (cellD d), x2, x3, x4, x5, x6, x7, x8, x9, x10, x11, x12, x13] ∧ d.ok ∧ PJ x8 ∧ PJ x12
abbrev lawB : Ss := .cons s_law_2_1 (.cons s_law_2_2 (.cons s_law_2_3 (.cons s_law_2_4 (.cons s_law_2_5 (.cons s_law_2_6 (.cons s_law_2_7 (.cons s_law_2_8 (.cons s_law_2_9 (.cons s_law_2_10 (.cons s_law_2_11 (.cons s_law_2_12 (.cons s_law_2_13 .nil))))))))))))
theorem turn_ok (x0 : Option Cell) (env : Env) (h : LInv x0 env) : Run T40 lawB env (fun f w => f = .nx ∧ LInv x0 w) := by
  obtain ⟨d, x2, x3, x4, x5, x6, x7, x8, x9, x10, x11, x12, x13, rfl, hd, h8, h12⟩ := h
  obtain ⟨ns, d1, s1, k1, t⟩ := t1 (x0 := x0) (x2 := x2) (x3 := x3) (x4 := x4) (x5 := x5) (x6 := x6) (x7 := x7) (x9 := x9) (x10 := x10) (x11 := x11) (x12 := x12) (x13 := x13) hd h8
  refine run_step s1 ?_
  have R := t.rul
  have n8 := t.n8
  have n0 := t.n0
  have hl : (foldsA ns.length).length ≤ 256 := by
    rw [len_foldsA]
    exact Nat.pow_le_pow_right (by decide) n8
  have hl0 : 0 < (foldsA ns.length).length := by rw [len_foldsA]; exact Nat.pow_pos (by decide)
  have e2 := r_all 39 ns.length (by omega)
  simp only [Nat.reduceAdd] at e2
  (apply run_step; · (simp only [↓toB, RU, Nat.reduceAdd, Nat.reduceSub, Nat.reduceLT, Nat.reduceLeDiff, Nat.reduceEqDiff, true_and, and_true, if_true, if_false, reduceIte, Bool.false_eq_true, reduceCtorEq, Int.reduceNeg, mthV_locG, RPAR, s_law_2_2, List.length_map, e2]; try ((with_reducible refine okE ?_); rfl)))
  have e3 := r_lens (x0 := x0) (x1 := some (cellD d1)) (x2 := x2) (x5 := x5) (x6 := x6) (x7 := x7) (x8 := x8) (x9 := x9) (x10 := x10) (x11 := x11) (x13 := x13) t h12
  rw [show s_law_2_3 = .asg (.nm 5) (.blt "min" (.cons eLens .nil)) from rfl]
  have e3b := bl_mnL (due_pos ns)
  (apply run_step; · (simp only [↓toB, RU, Nat.reduceAdd, Nat.reduceSub, Nat.reduceLT, Nat.reduceLeDiff, Nat.reduceEqDiff, true_and, and_true, if_true, if_false, reduceIte, Bool.false_eq_true, reduceCtorEq, Int.reduceNeg, mthV_locG, RPAR, e3, e3b]; try ((with_reducible refine okE ?_); rfl)))
  rw [show mn ((foldsA ns.length).map (lawLen ns)) = due ns from rfl]
  have e4 := r_least 36 R (by omega) (fun x hx => by have := t.rng x hx; omega)
  simp only [Nat.reduceAdd] at e4
  (apply run_step; · (simp only [↓toB, RU, Nat.reduceAdd, Nat.reduceSub, Nat.reduceLT, Nat.reduceLeDiff, Nat.reduceEqDiff, true_and, and_true, if_true, if_false, reduceIte, Bool.false_eq_true, reduceCtorEq, Int.reduceNeg, mthV_locG, RPAR, s_law_2_4, e4]; try ((with_reducible refine okE ?_); rfl)))
  have fl := folds_len (due ns) ns
  have fo := folds_or (due ns) ns
  have dg := due_ge t.n0
  have dl := due_lt t.n0 R.pos
  have rm := room_ok t
  have ri := (row_iff (room := due ns) (by omega) R.pos).mpr (Int.le_refl _)
  have fi := folds_in (room := due ns) (by omega) R.pos ri
  have e5a := same_ok (Pg := pg) rfl 2 (.int (due ns)) trivial 38
  have e5b := r_isf_ok 38 fl fo
  have e5c := r_len 39 R fl fo
  have c5a : decide (2 * mx ns ≤ due ns) = false := decide_eq_false (by omega)
  have c5b : decide (due ns < lawLen ns (foldsW (due ns) ns)) = false := decide_eq_false (by omega)
  have mm : mulOk 2 (mx ns) = true := small_mul (by decide) (by omega)
  simp only [Nat.reduceAdd] at e5a e5b e5c
  (apply run_step; · (simp only [↓toB, RU, Nat.reduceAdd, Nat.reduceSub, Nat.reduceLT, Nat.reduceLeDiff, Nat.reduceEqDiff, true_and, and_true, if_true, if_false, reduceIte, Bool.false_eq_true, reduceCtorEq, Int.reduceNeg, mthV_locG, RPAR, s_law_2_5, e5a, bl_mxT t.n0, bo_mul _ _ mm, c5a, e5b, e5c, c5b, decide_true]; try ((with_reducible refine okE ?_); rfl)))
  -- one of all folds
  have hL : 1 ≤ (((foldsA ns.length).length : Nat) : Int) ∧ (((foldsA ns.length).length : Nat) : Int) ≤ 1000000 := by omega
  have e6 := r_draw 39 k1 hL
  have g6 := draw_rng k1 hL
  have k2 := draw_ok k1 hL
  obtain ⟨i, hi⟩ := Int.eq_ofNat_of_zero_le g6.1
  have hi2 : i < (foldsA ns.length).length := by omega
  have e6b := atM iT (foldsA ns.length) i hi2
  rw [hi] at e6
  obtain ⟨ql, qo⟩ := mem_foldsA.mp (List.getElem_mem hi2)
  generalize (foldsA ns.length)[i] = fs at e6b ql qo
  generalize drawS d1 (((foldsA ns.length).length : Nat) : Int) = d2 at e6 k2
  clear g6 hi hi2 hL
  simp only [cellD, Nat.reduceAdd] at e6 ⊢
  (apply run_step; · (simp only [↓toB, RU, Nat.reduceAdd, Nat.reduceSub, Nat.reduceLT, Nat.reduceLeDiff, Nat.reduceEqDiff, true_and, and_true, if_true, if_false, reduceIte, Bool.false_eq_true, reduceCtorEq, Int.reduceNeg, mthV_locG, RPAR, s_law_2_6, List.length_map, e6, e6b]; try ((with_reducible refine okE ?_); rfl)))
  (apply run_step; · (simp only [↓toB, RU, Nat.reduceAdd, Nat.reduceSub, Nat.reduceLT, Nat.reduceLeDiff, Nat.reduceEqDiff, true_and, and_true, if_true, if_false, reduceIte, Bool.false_eq_true, reduceCtorEq, Int.reduceNeg, mthV_locG, RPAR, s_law_2_7]; try ((with_reducible refine okE ?_); rfl)))
  -- the law's own places
  have b := fun env => rngN ns.length env (by omega)
  unfold s_law_2_8
  refine run_for0 (φ := fun k : Nat => PV.int (k : Int)) (xs := List.range ns.length) (fun pre e => ∃ j8, PJ j8 ∧ e = [x0, some (cellD d2), x2, some (.fz (iT ns)), some (.lst ((foldsA ns.length).map iT)), some (.fz (.int (due ns))), some (.fz (iT fs)), some (.lst ((0 :: path 0 (ns.take pre.length) (fs.take pre.length)).map .int)), j8, x9, x10, some (.fz (.int (due ns))), some (.fz (iT (foldsW (due ns) ns))), x13]) (p := .non) ?_ ⟨x8, h8, rfl⟩ ?_ ?_
  · (simp only [↓toB, RU, Nat.reduceAdd, Nat.reduceSub, Nat.reduceLT, Nat.reduceLeDiff, Nat.reduceEqDiff, true_and, and_true, if_true, if_false, reduceIte, Bool.false_eq_true, reduceCtorEq, Int.reduceNeg, mthV_locG, RPAR, List.length_map, b]; try ((with_reducible refine okE ?_); rfl))
  · rintro pre x post e he ⟨j8, hj8, rfl⟩
    obtain ⟨rfl, hx⟩ := range_split he
    have hx2 : pre.length < fs.length := by omega
    have tl : (fs.take pre.length).length = (ns.take pre.length).length := by rw [List.length_take, List.length_take]; omega
    obtain ⟨l, el⟩ := last_pos (ns.take pre.length) (fs.take pre.length) 0 tl
    have pl : (path 0 (ns.take pre.length) (fs.take pre.length)).length = pre.length := by
      have := path_len (List.zip (ns.take pre.length) (fs.take pre.length)) 0
      obtain ⟨z1, z2⟩ := zip_maps _ _ tl
      rw [z1, z2] at this
      rw [this, List.length_zip, List.length_take, List.length_take]
      omega
    have ll : l.length = pre.length := by
      have := congrArg List.length el
      rw [List.length_cons, List.length_append, List.length_singleton, pl] at this
      omega
    have e1 := atM PV.int ns pre.length hx
    have e2 := atM PV.int fs pre.length hx2
    have e3 : atI ((0 :: path 0 (ns.take pre.length) (fs.take pre.length)).map PV.int) (pre.length : Int) = some (.int (0 + dot (fs.take pre.length) (ns.take pre.length))) := by
      refine ix_at ?_
      rw [el, List.map_append, List.getElem?_append_right (by rw [List.length_map, ll]; exact Nat.le_refl _), List.length_map, ll, Nat.sub_self]
      rfl
    have ha := List.getElem_mem hx
    have mm := pm_small (qo _ (List.getElem_mem hx2)) (R.pos _ ha) (R.small _ ha)
    have a1 := mth_appM PV.int (0 :: path 0 (ns.take pre.length) (fs.take pre.length)) (0 + dot (fs.take pre.length) (ns.take pre.length) + fs[pre.length] * ns[pre.length]) (by rw [List.length_cons, pl, sizeLine_eq]; omega)
    refine ⟨_, rfl, ?_⟩
    generalize hv : 0 + dot (fs.take pre.length) (ns.take pre.length) + fs[pre.length] * ns[pre.length] = v at a1
    generalize hq : (0 :: path 0 (ns.take pre.length) (fs.take pre.length)) = q at e3 a1
    unfold s_law_2_8_1
    show Run _ _ [x0, some (cellD d2), x2, some (.fz (iT ns)), some (.lst ((foldsA ns.length).map iT)), some (.fz (.int (due ns))), some (.fz (iT fs)), some (.lst (q.map .int)), some (.fz (.int (pre.length : Int))), x9, x10, some (.fz (.int (due ns))), some (.fz (iT (foldsW (due ns) ns))), x13] _
    (apply run_step; · (simp only [↓toB, RU, Nat.reduceAdd, Nat.reduceSub, Nat.reduceLT, Nat.reduceLeDiff, Nat.reduceEqDiff, true_and, and_true, if_true, if_false, reduceIte, Bool.false_eq_true, reduceCtorEq, Int.reduceNeg, mthV_locG, RPAR, e1, e2, e3, bo_mul _ _ mm, hv, a1]; try ((with_reducible refine okE ?_); rfl)))
    refine run_nil ⟨rfl, some (.fz (.int (pre.length : Int))), PJ.z _, ?_⟩
    have e5 : 0 :: path 0 (ns.take (pre ++ [pre.length]).length) (fs.take (pre ++ [pre.length]).length) = q ++ [v] := by
      rw [List.length_append, List.length_singleton, List.take_succ, List.take_succ, List.getElem?_eq_getElem hx, List.getElem?_eq_getElem hx2]
      show 0 :: path 0 (ns.take pre.length ++ [ns[pre.length]]) (fs.take pre.length ++ [fs[pre.length]]) = _
      rw [path_snoc _ _ _ _ _ tl, hv, ← hq]
      rfl
    rw [e5]
  rintro e ⟨j8, hj8, rfl⟩
  have tk : ns.take (List.range ns.length).length = ns ∧ fs.take (List.range ns.length).length = fs := by
    rw [List.length_range]
    exact ⟨List.take_length, by rw [← ql]; exact List.take_length⟩
  rw [tk.1, tk.2]
  have e9a := r_joints 39 R ql qo
  have e9b := same_ok (Pg := pg) rfl 3 (iT (0 :: path 0 ns fs)) ⟨by
    rw [List.length_map, List.length_cons]
    have := path_len (List.zip ns fs) 0
    obtain ⟨z1, z2⟩ := zip_maps _ _ ql
    rw [z1, z2, List.length_zip] at this
    omega, fun p hp => by
    obtain ⟨x, _, rfl⟩ := List.mem_map.mp hp
    trivial⟩ 37
  have e9c := r_folded 38 R ql qo
  have e9d := r_len 39 R ql qo
  have e9e := same_ok (Pg := pg) rfl 2 (.int (lawLen ns fs)) trivial 38
  simp only [Nat.reduceAdd] at e9a e9b e9c e9d e9e
  generalize hq : (0 :: path 0 ns fs) = q at e9a e9b
  (apply run_step; · (simp only [↓toB, RU, Nat.reduceAdd, Nat.reduceSub, Nat.reduceLT, Nat.reduceLeDiff, Nat.reduceEqDiff, true_and, and_true, if_true, if_false, reduceIte, Bool.false_eq_true, reduceCtorEq, Int.reduceNeg, mthV_locG, RPAR, s_law_2_9, e9a, e9b, e9c, e9d, e9e]; try ((with_reducible refine okE ?_); rfl)))
  -- rooms
  unfold s_law_2_10
  refine run_for0 (φ := fun k : Nat => PV.int (k : Int)) (xs := List.range 4) (fun pre e => ∃ d j9 j11 j13, d.ok ∧ e = [x0, some (cellD d), x2, some (.fz (iT ns)), some (.lst ((foldsA ns.length).map iT)), some (.fz (.int (due ns))), some (.fz (iT fs)), some (.lst (q.map .int)), j8, j9, x10, j11, some (.fz (iT (foldsW (due ns) ns))), j13]) (p := .non) ?_ ⟨d2, x9, some (.fz (.int (due ns))), x13, k2, rfl⟩ ?_ ?_
  · (simp only [↓toB, RU, Nat.reduceAdd, Nat.reduceSub, Nat.reduceLT, Nat.reduceLeDiff, Nat.reduceEqDiff, true_and, and_true, if_true, if_false, reduceIte, Bool.false_eq_true, reduceCtorEq, Int.reduceNeg, mthV_locG, RPAR, rng4]; try ((with_reducible refine okE ?_); rfl))
  · rintro pre x post e he ⟨d, j9, j11, j13, hd, rfl⟩
    refine ⟨[x0, some (cellD d), x2, some (.fz (iT ns)), some (.lst ((foldsA ns.length).map iT)), some (.fz (.int (due ns))), some (.fz (iT fs)), some (.lst (q.map .int)), j8, some (.fz (.int (x : Int))), x10, j11, some (.fz (iT (foldsW (due ns) ns))), j13], rfl, ?_⟩
    have hL : 1 ≤ 2 * mx ns ∧ 2 * mx ns ≤ 1000000 := by omega
    have e1 := r_draw 39 hd hL
    have g1 := draw_rng hd hL
    have k3 := draw_ok hd hL
    generalize drawV d (2 * mx ns) = room at e1 g1
    generalize drawS d (2 * mx ns) = d3 at e1 k3
    have e2 := r_fw 37 R (by omega) (room := room) (by omega)
    have ri := row_iff (room := room) (by omega) R.pos
    simp only [cellD, Nat.reduceAdd] at e1 e2 ⊢
    (apply run_step; · (simp only [↓toB, RU, Nat.reduceAdd, Nat.reduceSub, Nat.reduceLT, Nat.reduceLeDiff, Nat.reduceEqDiff, true_and, and_true, if_true, if_false, reduceIte, Bool.false_eq_true, reduceCtorEq, Int.reduceNeg, mthV_locG, RPAR, s_law_2_10_1, bl_mxT t.n0, bo_mul _ _ mm, e1]; try ((with_reducible refine okE ?_); rfl)))
    (apply run_step; · (simp only [↓toB, RU, Nat.reduceAdd, Nat.reduceSub, Nat.reduceLT, Nat.reduceLeDiff, Nat.reduceEqDiff, true_and, and_true, if_true, if_false, reduceIte, Bool.false_eq_true, reduceCtorEq, Int.reduceNeg, mthV_locG, RPAR, s_law_2_10_2, e2]; try ((with_reducible refine okE ?_); rfl)))
    by_cases z : rowR room ns = []
    · have c1 : decide (room < due ns) = true := decide_eq_true (by
        rcases Int.lt_or_le room (due ns) with h | h
        · exact h
        · exact absurd z (ri.mpr h))
      rw [if_pos z]
      (apply run_step; · (simp only [↓toB, RU, Nat.reduceAdd, Nat.reduceSub, Nat.reduceLT, Nat.reduceLeDiff, Nat.reduceEqDiff, true_and, and_true, if_true, if_false, reduceIte, Bool.false_eq_true, reduceCtorEq, Int.reduceNeg, mthV_locG, RPAR, s_law_2_10_3, c1, decide_true]; try ((with_reducible refine okE ?_); rfl)))
      exact run_nil ⟨rfl, d3, _, _, _, k3, rfl⟩
    · have c1 : decide (room < due ns) = false := decide_eq_false (by have := ri.mp z; omega)
      have e3 := r_isf_ok 38 (folds_len room ns) (folds_or room ns)
      have e4 := r_len 39 R (folds_len room ns) (folds_or room ns)
      have c2 : decide (room < lawLen ns (foldsW room ns)) = false := decide_eq_false (by have := folds_in (room := room) (by omega) R.pos z; omega)
      simp only [Nat.reduceAdd] at e3 e4
      rw [if_neg z]
      (apply run_step; · (simp only [↓toB, RU, Nat.reduceAdd, Nat.reduceSub, Nat.reduceLT, Nat.reduceLeDiff, Nat.reduceEqDiff, true_and, and_true, if_true, if_false, reduceIte, Bool.false_eq_true, reduceCtorEq, Int.reduceNeg, mthV_locG, RPAR, s_law_2_10_3, c1, e3, e4, c2, decide_true]; try ((with_reducible refine okE ?_); rfl)))
      exact run_nil ⟨rfl, d3, _, _, _, k3, rfl⟩
  rintro e ⟨d4, j9, j11, j13, k4, rfl⟩
  -- what are no folds
  obtain ⟨a0, fs', rfl⟩ : ∃ a0 fs', fs = a0 :: fs' := by
    cases fs with
    | nil => rw [List.length_nil] at ql; omega
    | cons a r => exact ⟨a, r, rfl⟩
  have bads : ∀ p ∈ [PV.non, .lst ((a0 :: fs').map .int), .tup ((a0 :: fs').map .int ++ [.int 1]), .tup (fs'.map .int ++ [.int 0]), .tup (fs'.map .int ++ [.bl true])], evF pg 40 (.fn "is_folds") [.val (iT ns), .val p] = .ok (.val (.bl false)) none := by
    have w : ∀ v, (v = PV.int 0 ∨ v = .bl true) → evF pg 40 (.fn "is_folds") [.val (iT ns), .val (.tup (fs'.map .int ++ [v]))] = .ok (.val (.bl false)) none := fun v hv => by
      have := r_isf 38 ns (fs'.map .int ++ [v]) (fun p hp => by
        rcases List.mem_append.mp hp with hp | hp
        · exact int_all fs' p hp
        · obtain rfl : p = v := by simpa using hp
          rcases hv with rfl | rfl
          · exact .inl ⟨_, rfl⟩
          · exact .inr ⟨_, rfl⟩) (by rw [List.length_append, List.length_map, ← ql]; rfl)
      rw [List.all_append, show ([v] : List PV).all goodP = false by rcases hv with rfl | rfl <;> rfl, Bool.and_false] at this
      exact this
    refine all_cons (r_isf_non 38 ns) (all_cons (r_isf_lst 38 ns _) (all_cons (r_isf_len 38 ns _ ?_) (all_cons (w _ (.inl rfl)) (all_cons (w _ (.inr rfl)) all_nil))))
    rw [List.length_append, List.length_map, ql, List.length_singleton]
    omega
  have z1 : ((a0 :: fs').map PV.int).length + ([PV.int 1] : List PV).length ≤ sizeLine := sz1 (by rw [List.length_map, ql]; show ns.length + 1 ≤ _; omega)
  have z2 : (fs'.map PV.int).length + ([PV.int 0] : List PV).length ≤ sizeLine := sz1 (by rw [List.length_map]; rw [List.length_cons] at ql; show fs'.length + 1 ≤ _; omega)
  have z3 : (fs'.map PV.int).length + ([PV.bl true] : List PV).length ≤ sizeLine := sz1 (by rw [List.length_map]; rw [List.length_cons] at ql; show fs'.length + 1 ≤ _; omega)
  have sl : slP (.tup (PV.int a0 :: fs'.map PV.int)) (some 1) none = some (.tup (fs'.map .int)) := by
    rw [sl_tup, show (1 : Int) = ((1 : Nat) : Int) from rfl, cut_from]
    rfl
  have sl2 : slP (.tup ((a0 :: fs').map PV.int)) (some 1) none = some (.tup (fs'.map .int)) := sl
  unfold s_law_2_11
  refine run_for0 (φ := id) (xs := [PV.non, .lst ((a0 :: fs').map .int), .tup ((a0 :: fs').map .int ++ [.int 1]), .tup (fs'.map .int ++ [.int 0]), .tup (fs'.map .int ++ [.bl true])]) (fun pre e => ∃ j10, e = [x0, some (cellD d4), x2, some (.fz (iT ns)), some (.lst ((foldsA ns.length).map iT)), some (.fz (.int (due ns))), some (.fz (iT (a0 :: fs'))), some (.lst (q.map .int)), j8, j9, j10, j11, some (.fz (iT (foldsW (due ns) ns))), j13]) (p := .non) ?_ ⟨x10, rfl⟩ ?_ ?_
  · (simp only [↓toB, RU, Nat.reduceAdd, Nat.reduceSub, Nat.reduceLT, Nat.reduceLeDiff, Nat.reduceEqDiff, true_and, and_true, if_true, if_false, reduceIte, Bool.false_eq_true, reduceCtorEq, Int.reduceNeg, mthV_locG, RPAR, isK_lst, bo_addt _ _ z1, bo_addt _ _ z2, bo_addt _ _ z3, sl, sl2, id]; try ((with_reducible refine okE ?_); rfl))
  · rintro pre p post e he ⟨j10, rfl⟩
    have hb := bads p (by rw [he]; simp)
    refine ⟨[x0, some (cellD d4), x2, some (.fz (iT ns)), some (.lst ((foldsA ns.length).map iT)), some (.fz (.int (due ns))), some (.fz (iT (a0 :: fs'))), some (.lst (q.map .int)), j8, j9, some (.fz p), j11, some (.fz (iT (foldsW (due ns) ns))), j13], rfl, ?_⟩
    (apply run_step; · (simp only [↓toB, RU, Nat.reduceAdd, Nat.reduceSub, Nat.reduceLT, Nat.reduceLeDiff, Nat.reduceEqDiff, true_and, and_true, if_true, if_false, reduceIte, Bool.false_eq_true, reduceCtorEq, Int.reduceNeg, mthV_locG, RPAR, s_law_2_11_1, hb, decide_true]; try ((with_reducible refine okE ?_); rfl)))
    exact run_nil ⟨rfl, _, rfl⟩
  rintro e ⟨j10, rfl⟩
  have n1 : copV .ne (.str "room") (.str "room") = some false := by kernel_rfl
  have n2 : copV .ne (.str "ruler") (.str "ruler") = some false := by kernel_rfl
  have q1 := ref_neg 36 R
  have q2 := ref_x 36 R
  have q3 := look_fw 36 (.tup []) (.int 3) (look_0 36)
  have q4 := look_fw 36 (.tup [.int 0]) (.int 3) (look_2 36)
  have q5 := look_fw 36 (.lst [.int 1]) (.int 3) (look_1 36)
  have q6 := look_fw 36 (.tup l41) (.int 3) (look_41 36)
  simp only [Nat.reduceAdd] at q1 q2 q3 q4 q5 q6
  (apply run_step; · (simp only [↓toB, RU, Nat.reduceAdd, Nat.reduceSub, Nat.reduceLT, Nat.reduceLeDiff, Nat.reduceEqDiff, true_and, and_true, if_true, if_false, reduceIte, Bool.false_eq_true, reduceCtorEq, Int.reduceNeg, mthV_locG, RPAR, s_law_2_12, q1, q2, q3, q4, n1, n2]; try ((with_reducible refine okE ?_); rfl)))
  have r41 : bopV .mul (.tup [.int 1]) (.int 41) = some (.tup l41) := by
    show (if ([PV.int 1] : List PV) ≠ [] ∧ (2 : Int) ≤ 41 ∧ (41 : Int) ≤ 1000 ∧ ([PV.int 1] : List PV).length ≤ 1000 then some (VR.tup (List.replicate (41 : Int).toNat [PV.int 1]).flatten) else none) = _
    rw [if_pos ⟨by simp, by decide, by decide, by decide⟩]
    rfl
  (apply run_step; · (simp only [↓toB, RU, Nat.reduceAdd, Nat.reduceSub, Nat.reduceLT, Nat.reduceLeDiff, Nat.reduceEqDiff, true_and, and_true, if_true, if_false, reduceIte, Bool.false_eq_true, reduceCtorEq, Int.reduceNeg, mthV_locG, RPAR, s_law_2_13, q5, r41, q6, n2]; try ((with_reducible refine okE ?_); rfl)))
  exact run_nil ⟨rfl, d4, _, _, _, _, _, _, _, _, _, _, _, _, rfl, k4, hj8, PJ.z _⟩
end PL
set_option Elab.async false
set_option linter.all false
set_option maxRecDepth 100000
set_option maxHeartbeats 2000000
namespace PL
open PySem PySem.Spec PyProof.Rows L2 K72
theorem r_draws (n) (ns : List Int) : evF pg (n + 1) (.fn "_law_draws") [.val (.scr ns)] = .ok (.new (cellD ⟨ns, 0, 0, 1⟩)) none := by
  rw [c__law_draws]
  simp only [↓toB, RU, Nat.reduceAdd, Nat.reduceSub, Nat.reduceLT, Nat.reduceLeDiff, Nat.reduceEqDiff, true_and, and_true, if_true, if_false, reduceIte, Bool.false_eq_true, reduceCtorEq, Int.reduceNeg, mthV_locG, RPAR, d__law_draws, show bltK "list" [.scr ns] = some (.lst (ns.map .int)) from by unfold bltK; rw [if_neg (by decide), if_pos rfl]]
  rfl
theorem the_law : ∀ ns : List Int, ns.length ≤ 63 → evF pg (40 + 1) (.fn "law") [.val (.scr ns)] = .ok (.val (.bl true)) none := by
  intro ns hn
  rw [c_law]
  have e1 : evF pg 40 (.fn "_law_draws") [.val (.scr ns)] = .ok (.new (cellD ⟨ns, 0, 0, 1⟩)) none := r_draws 39 ns
  refine fn_val ⟨rfl, by decide⟩ rfl ?_
  show Run T40 d_law.body [some (.fz (.scr ns)), none, none, none, none, none, none, none, none, none, none, none, none, none] _
  unfold d_law
  (apply run_step; · (simp only [↓toB, RU, Nat.reduceAdd, Nat.reduceSub, Nat.reduceLT, Nat.reduceLeDiff, Nat.reduceEqDiff, true_and, and_true, if_true, if_false, reduceIte, Bool.false_eq_true, reduceCtorEq, Int.reduceNeg, mthV_locG, RPAR, s_law_1, e1]; try ((with_reducible refine okE ?_); rfl)))
  unfold s_law_2
  refine run_for0 (φ := fun k : Nat => PV.int (k : Int)) (xs := List.range 4) (fun _ e => LInv (some (.fz (.scr ns))) e) (p := .non) (w1 := [some (.fz (.scr ns)), some (cellD ⟨ns, 0, 0, 1⟩), none, none, none, none, none, none, none, none, none, none, none, none]) ?_ ?_ ?_ ?_
  · (simp only [↓toB, RU, Nat.reduceAdd, Nat.reduceSub, Nat.reduceLT, Nat.reduceLeDiff, Nat.reduceEqDiff, true_and, and_true, if_true, if_false, reduceIte, Bool.false_eq_true, reduceCtorEq, Int.reduceNeg, mthV_locG, RPAR, rng4]; try ((with_reducible refine okE ?_); rfl))
  · exact ⟨⟨ns, 0, 0, 1⟩, none, none, none, none, none, none, none, none, none, none, none, none, rfl, ⟨hn, Int.le_refl 0, (by show (0 : Int) ≤ 1; decide), (by show (1 : Int) < 2147483647; decide)⟩, PJ.n, PJ.n⟩
  · rintro pre x post e he ⟨d, x2, x3, x4, x5, x6, x7, x8, x9, x10, x11, x12, x13, rfl, hd, h8, h12⟩
    exact ⟨_, rfl, turn_ok _ _ ⟨d, _, x3, x4, x5, x6, x7, x8, x9, x10, x11, x12, x13, rfl, hd, h8, h12⟩⟩
  · rintro e he
    unfold s_law_3
    (apply run_ret; · (simp only [↓toB, RU, Nat.reduceAdd, Nat.reduceSub, Nat.reduceLT, Nat.reduceLeDiff, Nat.reduceEqDiff, true_and, and_true, if_true, if_false, reduceIte, Bool.false_eq_true, reduceCtorEq, Int.reduceNeg, mthV_locG, RPAR]; try ((with_reducible refine okE ?_); rfl)))
    rfl
end PL
namespace PL
open PySem PySem.Spec PyProof.Rows L2
theorem all_mk {l : PySem.W.OpenLaw} {w : World} {K : PySem.W.Frag} {h : Heap} {mg : Str → Option Value} {fa : Addr} (X : K.In h) (G : h.Ns mainGlobals mg) (hfa : mg "law" = some (.ref fa))
    (D_is_whole : DF K "is_whole" (topS 4) ["value"])
    (D_look_at_ruler : DF K "look_at_ruler" (topS 7) ["value"])
    (D_joints_of : DF K "joints_of" (topS 8) ["ruler", "folds"])
    (D_is_folds : DF K "is_folds" (topS 9) ["ruler", "value"])
    (D_folded_length : DF K "folded_length" (topS 10) ["ruler", "folds"])
    (D_reachable : DF K "reachable" (topS 11) ["ruler", "room"])
    (D_folds_within : DF K "folds_within" (topS 12) ["ruler", "room"])
    (D_least_room : DF K "least_room" (topS 13) ["ruler"])
    (D__law_draws : DF K "_law_draws" (topS 15) ["script"])
    (D__law_draw : DF K "_law_draw" (topS 16) ["draws", "limit"])
    (D__law_same : DF K "_law_same" (topS 17) ["actual", "expected"])
    (D__law_all : DF K "_law_all" (topS 18) ["many"])
    (D__law_length : DF K "_law_length" (topS 19) ["ruler", "folds"])
    (D__law_refused : DF K "_law_refused" (topS 20) ["ruler", "room"])
    (D_law : DF K "law" (topS 21) ["script"])
    (K_MOST_WORK : CI K "MOST_WORK" 200000)
    (z_len : PySem.W.nsIn K mainGlobals "len" = some none)
    (z_abs : PySem.W.nsIn K mainGlobals "abs" = some none)
    (z_min : PySem.W.nsIn K mainGlobals "min" = some none)
    (z_max : PySem.W.nsIn K mainGlobals "max" = some none)
    (z_sum : PySem.W.nsIn K mainGlobals "sum" = some none)
    (z_all : PySem.W.nsIn K mainGlobals "all" = some none)
    (z_any : PySem.W.nsIn K mainGlobals "any" = some none)
    (z_tuple : PySem.W.nsIn K mainGlobals "tuple" = some none)
    (z_list : PySem.W.nsIn K mainGlobals "list" = some none)
    (z_int : PySem.W.nsIn K mainGlobals "int" = some none)
    (z_isinstance : PySem.W.nsIn K mainGlobals "isinstance" = some none)
    (z_bool : PySem.W.nsIn K mainGlobals "bool" = some none)
    (z_str : PySem.W.nsIn K mainGlobals "str" = some none)
    (z_dict : PySem.W.nsIn K mainGlobals "dict" = some none)
    (z_range : PySem.W.nsIn K mainGlobals "range" = some none)
    (z_zip : PySem.W.nsIn K mainGlobals "zip" = some none)
    (z_enumerate : PySem.W.nsIn K mainGlobals "enumerate" = some none)
    (z_sorted : PySem.W.nsIn K mainGlobals "sorted" = some none)
    (z_set : PySem.W.nsIn K mainGlobals "set" = some none)
    (E_FrameError : ExN K "FrameError")
    (L_FrameError : ClN K "FrameError")
    (L_Refused : ClN K "Refused")
    (X_FrameError : XcN K "FrameError")
    (X_Refused : XcN K "Refused")
    (W_Refused : WdN K "Refused" "FrameError" (inS 2 0) "Refused.__init__")
    (S_0 : SubN K "FrameError" "FrameError" true)
    (S_1 : SubN K "FrameError" "Refused" false)
    (S_2 : SubN K "Refused" "FrameError" true)
    (S_3 : SubN K "Refused" "Refused" true)
    : ∃ fd : FuncData, (∀ (s : Shared) (u : Value), BindsTo s fd ⟨[u], []⟩ [("script", u)]) ∧ ∀ base : Heap, K.In base → base.Ns mainGlobals mg → FnOk l.prog w K mg base (L2.CX l.prog w) (2 * 40 + 4) fa fd ["script"] (spLaw K) := by
  have T : Top pg cfg K mg := {
    blts := all_cons (PySem.W.mg_none_of X G z_len) (all_cons (PySem.W.mg_none_of X G z_abs) (all_cons (PySem.W.mg_none_of X G z_min) (all_cons (PySem.W.mg_none_of X G z_max) (all_cons (PySem.W.mg_none_of X G z_sum) (all_cons (PySem.W.mg_none_of X G z_all) (all_cons (PySem.W.mg_none_of X G z_any) (all_cons (PySem.W.mg_none_of X G z_tuple) (all_cons (PySem.W.mg_none_of X G z_list) (all_cons (PySem.W.mg_none_of X G z_int) (all_cons (PySem.W.mg_none_of X G z_isinstance) (all_cons (PySem.W.mg_none_of X G z_bool) (all_cons (PySem.W.mg_none_of X G z_str) (all_cons (PySem.W.mg_none_of X G z_dict) (all_cons (PySem.W.mg_none_of X G z_range) (all_cons (PySem.W.mg_none_of X G z_zip) (all_cons (PySem.W.mg_none_of X G z_enumerate) (all_cons (PySem.W.mg_none_of X G z_sorted) (all_cons (PySem.W.mg_none_of X G z_set) (all_nil)))))))))))))))))))
    defs := all_cons (D_is_whole.ok X G _ 60 sc_is_whole (by decide) tr_is_whole (by decide +kernel)) (all_cons (D_look_at_ruler.ok X G _ 60 sc_look_at_ruler (by decide) tr_look_at_ruler (by decide +kernel)) (all_cons (D_joints_of.ok X G _ 60 sc_joints_of (by decide) tr_joints_of (by decide +kernel)) (all_cons (D_is_folds.ok X G _ 60 sc_is_folds (by decide) tr_is_folds (by decide +kernel)) (all_cons (D_folded_length.ok X G _ 60 sc_folded_length (by decide) tr_folded_length (by decide +kernel)) (all_cons (D_reachable.ok X G _ 60 sc_reachable (by decide) tr_reachable (by decide +kernel)) (all_cons (D_folds_within.ok X G _ 60 sc_folds_within (by decide) tr_folds_within (by decide +kernel)) (all_cons (D_least_room.ok X G _ 60 sc_least_room (by decide) tr_least_room (by decide +kernel)) (all_cons (D__law_draws.ok X G _ 60 sc__law_draws (by decide) tr__law_draws (by decide +kernel)) (all_cons (D__law_draw.ok X G _ 60 sc__law_draw (by decide) tr__law_draw (by decide +kernel)) (all_cons (D__law_same.ok X G _ 60 sc__law_same (by decide) tr__law_same (by decide +kernel)) (all_cons (D__law_all.ok X G _ 60 sc__law_all (by decide) tr__law_all (by decide +kernel)) (all_cons (D__law_length.ok X G _ 60 sc__law_length (by decide) tr__law_length (by decide +kernel)) (all_cons (D__law_refused.ok X G _ 60 sc__law_refused (by decide) tr__law_refused (by decide +kernel)) (all_cons (D_law.ok X G _ 60 sc_law (by decide) tr_law (by decide +kernel)) (all_nil)))))))))))))))
    con := by
      intro x p h
      have h := con_of h
      rcases h with ⟨rfl, rfl⟩
      · exact K_MOST_WORK.ok X G
    excs := all_cons (E_FrameError.f X G) (all_nil)
    wds := all_cons (fun P w base => W_Refused.f X G ⟨rfl, rfl, rfl, by decide +kernel, rfl, by decide +kernel, by decide +kernel⟩ rfl rfl rfl (by decide) rfl (fun env => ⟨_, rfl⟩) P w base) (all_nil)
    subs := fun F => ⟨by
      intro C C' b h
      have h := sub_of h
      rcases h with ⟨rfl, rfl, rfl⟩ | ⟨rfl, rfl, rfl⟩ | ⟨rfl, rfl, rfl⟩ | ⟨rfl, rfl, rfl⟩
      · exact X_FrameError.ok X G
      · exact X_FrameError.ok X G
      · exact X_Refused.ok X G
      · exact X_Refused.ok X G
      , by
      intro C C' b h
      have h := sub_of h
      rcases h with ⟨rfl, rfl, rfl⟩ | ⟨rfl, rfl, rfl⟩ | ⟨rfl, rfl, rfl⟩ | ⟨rfl, rfl, rfl⟩
      · exact S_0.ok S_0 L_FrameError X G
      · exact S_1.ok S_0 L_Refused X G
      · exact S_2.ok S_3 L_FrameError X G
      · exact S_3.ok S_3 L_Refused X G
      ⟩
    xcs := all_cons (L_FrameError.ad X G) (all_cons (L_Refused.ad X G) (all_nil))
    flds := all_nil
    maks := all_nil
    mets := all_nil
  }
  exact law_fn T 40 D_law X G hfa sc_law (by decide) tr_law the_law
end PL
open PySem PySem.W PyProof.Rows
set_option maxRecDepth 100000 in
set_option maxHeartbeats 0 in
theorem PySem.Challenge.cw_frameshold_k72_whole_folded_rulers_holds : PySem.Challenge.rw_frameshold_k72_whole_folded_rulers.Holds := by
  w_on; o_law; k_head; (case hw => w_witness2)
  k_fill
  refine PL.law_walk (l := PySem.Challenge.rw_frameshold_k72_whole_folded_rulers) (k := 2 * 40 + 4) rfl rfl ⟨rfl, by decide, by decide⟩ (fun w h Y => by first | exact PySem.W.km_in_of Y | exact PySem.W.kIn_of Y) ?F
  case F =>
    intro w mg fa h KX G hmg
    refine' PL.all_mk KX G hmg ?D_is_whole ?D_look_at_ruler ?D_joints_of ?D_is_folds ?D_folded_length ?D_reachable ?D_folds_within ?D_least_room ?D__law_draws ?D__law_draw ?D__law_same ?D__law_all ?D__law_length ?D__law_refused ?D_law ?K_MOST_WORK ?z_len ?z_abs ?z_min ?z_max ?z_sum ?z_all ?z_any ?z_tuple ?z_list ?z_int ?z_isinstance ?z_bool ?z_str ?z_dict ?z_range ?z_zip ?z_enumerate ?z_sorted ?z_set ?E_FrameError ?L_FrameError ?L_Refused ?X_FrameError ?X_Refused ?W_Refused ?S_0 ?S_1 ?S_2 ?S_3
    (case D_is_whole => (refine' PL.df_mk ?a ?l ?c ?k fun _ _ _ _ _ _ us hl => (match us, hl with | [_], _ => rfl)); (case a => k_is); (case l => k_is); (case c => k_is); (case k => k_is))
    (case D_look_at_ruler => (refine' PL.df_mk ?a ?l ?c ?k fun _ _ _ _ _ _ us hl => (match us, hl with | [_], _ => rfl)); (case a => k_is); (case l => k_is); (case c => k_is); (case k => k_is))
    (case D_joints_of => (refine' PL.df_mk ?a ?l ?c ?k fun _ _ _ _ _ _ us hl => (match us, hl with | [_, _], _ => rfl)); (case a => k_is); (case l => k_is); (case c => k_is); (case k => k_is))
    (case D_is_folds => (refine' PL.df_mk ?a ?l ?c ?k fun _ _ _ _ _ _ us hl => (match us, hl with | [_, _], _ => rfl)); (case a => k_is); (case l => k_is); (case c => k_is); (case k => k_is))
    (case D_folded_length => (refine' PL.df_mk ?a ?l ?c ?k fun _ _ _ _ _ _ us hl => (match us, hl with | [_, _], _ => rfl)); (case a => k_is); (case l => k_is); (case c => k_is); (case k => k_is))
    (case D_reachable => (refine' PL.df_mk ?a ?l ?c ?k fun _ _ _ _ _ _ us hl => (match us, hl with | [_, _], _ => rfl)); (case a => k_is); (case l => k_is); (case c => k_is); (case k => k_is))
    (case D_folds_within => (refine' PL.df_mk ?a ?l ?c ?k fun _ _ _ _ _ _ us hl => (match us, hl with | [_, _], _ => rfl)); (case a => k_is); (case l => k_is); (case c => k_is); (case k => k_is))
    (case D_least_room => (refine' PL.df_mk ?a ?l ?c ?k fun _ _ _ _ _ _ us hl => (match us, hl with | [_], _ => rfl)); (case a => k_is); (case l => k_is); (case c => k_is); (case k => k_is))
    (case D__law_draws => (refine' PL.df_mk ?a ?l ?c ?k fun _ _ _ _ _ _ us hl => (match us, hl with | [_], _ => rfl)); (case a => k_is); (case l => k_is); (case c => k_is); (case k => k_is))
    (case D__law_draw => (refine' PL.df_mk ?a ?l ?c ?k fun _ _ _ _ _ _ us hl => (match us, hl with | [_, _], _ => rfl)); (case a => k_is); (case l => k_is); (case c => k_is); (case k => k_is))
    (case D__law_same => (refine' PL.df_mk ?a ?l ?c ?k fun _ _ _ _ _ _ us hl => (match us, hl with | [_, _], _ => rfl)); (case a => k_is); (case l => k_is); (case c => k_is); (case k => k_is))
    (case D__law_all => (refine' PL.df_mk ?a ?l ?c ?k fun _ _ _ _ _ _ us hl => (match us, hl with | [_], _ => rfl)); (case a => k_is); (case l => k_is); (case c => k_is); (case k => k_is))
    (case D__law_length => (refine' PL.df_mk ?a ?l ?c ?k fun _ _ _ _ _ _ us hl => (match us, hl with | [_, _], _ => rfl)); (case a => k_is); (case l => k_is); (case c => k_is); (case k => k_is))
    (case D__law_refused => (refine' PL.df_mk ?a ?l ?c ?k fun _ _ _ _ _ _ us hl => (match us, hl with | [_, _], _ => rfl)); (case a => k_is); (case l => k_is); (case c => k_is); (case k => k_is))
    (case D_law => (refine' PL.df_mk ?a ?l ?c ?k fun _ _ _ _ _ _ us hl => (match us, hl with | [_], _ => rfl)); (case a => k_is); (case l => k_is); (case c => k_is); (case k => k_is))
    (case K_MOST_WORK => (refine' PL.ci_mk ?aMOST_WORK); (case aMOST_WORK => k_is))
    (case z_len => k_is)
    (case z_abs => k_is)
    (case z_min => k_is)
    (case z_max => k_is)
    (case z_sum => k_is)
    (case z_all => k_is)
    (case z_any => k_is)
    (case z_tuple => k_is)
    (case z_list => k_is)
    (case z_int => k_is)
    (case z_isinstance => k_is)
    (case z_bool => k_is)
    (case z_str => k_is)
    (case z_dict => k_is)
    (case z_range => k_is)
    (case z_zip => k_is)
    (case z_enumerate => k_is)
    (case z_sorted => k_is)
    (case z_set => k_is)
    (case E_FrameError => (refine' PL.exn_mk PySem.F.excBase_ValueError ?xaFrameError ?xqFrameError ?xkFrameError ?xbFrameError ?xtFrameError ?xiFrameError); (case xaFrameError => k_is); (case xqFrameError => k_exc); (case xkFrameError => k_is); (case xbFrameError => k_is); (case xtFrameError => k_is); (case xiFrameError => k_is))
    (case L_FrameError => (refine' PL.cln_mk ?yaFrameError ?ybFrameError ?ytFrameError ?yiFrameError); (case yaFrameError => k_is); (case ybFrameError => k_is); (case ytFrameError => k_is); (case yiFrameError => k_is))
    (case L_Refused => (refine' PL.cln_mk ?yaRefused ?ybRefused ?ytRefused ?yiRefused); (case yaRefused => k_is); (case ybRefused => k_is); (case ytRefused => k_is); (case yiRefused => k_is))
    (case X_FrameError => (refine' PL.xcn_mk ?qgFrameError ?qgaFrameError ?qggFrameError ?qexFrameError ?qhdFrameError ?qnwFrameError ?qhaFrameError ?qhnFrameError ?qhtFrameError ?qhmFrameError); (case qgFrameError => k_is); (case qgaFrameError => k_is); (case qggFrameError => k_is); (case qexFrameError => k_is); (case qhdFrameError => k_is); (case qnwFrameError => k_is); (case qhaFrameError => k_is); (case qhnFrameError => k_is); (case qhtFrameError => k_is); (case qhmFrameError => k_is))
    (case X_Refused => (refine' PL.xcn_mk ?qgRefused ?qgaRefused ?qggRefused ?qexRefused ?qhdRefused ?qnwRefused ?qhaRefused ?qhnRefused ?qhtRefused ?qhmRefused); (case qgRefused => k_is); (case qgaRefused => k_is); (case qggRefused => k_is); (case qexRefused => k_is); (case qhdRefused => k_is); (case qnwRefused => k_is); (case qhaRefused => k_is); (case qhnRefused => k_is); (case qhtRefused => k_is); (case qhmRefused => k_is))
    (case W_Refused => (refine' PL.wdn_mk (mc := .type "type") ?waCRefused ?waBRefused ?wxLRefused ?whbmRefused ?wsaRefused ?weCRefused ?wtCRefused ?wkCRefused ?wgaRefused ?wggRefused ?whdRefused ?wnwRefused ?wiCRefused ?wtIRefused ?wlRefused ?wcRefused ?wkRefused ?wbRefused ?wgRefused ?whrRefused ?whvRefused); (case waCRefused => k_is); (case waBRefused => k_is); (case wxLRefused => k_is); (case whbmRefused => decide +kernel); (case wsaRefused => k_is); (case weCRefused => k_is); (case wtCRefused => k_is); (case wkCRefused => k_is); (case wgaRefused => k_is); (case wggRefused => k_is); (case whdRefused => k_is); (case wnwRefused => k_is); (case wiCRefused => k_is); (case wtIRefused => k_is); (case wlRefused => k_is); (case wcRefused => k_is); (case wkRefused => k_is); (case wbRefused => (intro _ _ _ _ _ _ us hl; exact (match us, hl with | [_, _], _ => rfl))); (case wgRefused => k_is); (case whrRefused => k_is); (case whvRefused => k_is))
    (case S_0 => (refine' PL.subn_mk ?sa0 ?sb0 ?sc0); (case sa0 => k_is); (case sb0 => k_is); (case sc0 => first | rfl | k_is))
    (case S_1 => (refine' PL.subn_mk ?sa1 ?sb1 ?sc1); (case sa1 => k_is); (case sb1 => k_is); (case sc1 => first | rfl | k_is))
    (case S_2 => (refine' PL.subn_mk ?sa2 ?sb2 ?sc2); (case sa2 => k_is); (case sb2 => k_is); (case sc2 => first | rfl | k_is))
    (case S_3 => (refine' PL.subn_mk ?sa3 ?sb3 ?sc3); (case sa3 => k_is); (case sb3 => k_is); (case sc3 => first | rfl | k_is))

