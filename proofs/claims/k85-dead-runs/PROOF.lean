import PyProof.Rows.All
import Wide.All
import OpenK.AllK
import Wide.FinOn
import HandS.HeadEnd
import HandS.HeadHook4
import HandS.Head2
import HandS.SlotsOwn
import HandS.Words
import HandS.ForMost
import HandS.ForExc
import HandS.Zip
import HandS.Conv
import HandS.IsInst
import HandS.Flow
import HandS.Defaults
import HandS.MakeKwOnly
import HandS.SetFor
import HandS.SortInts
import HandS.HeadHook1
import HandS.HeadHook2
import HandS.TupAny
import HandS.Deep
import HandS.Text
import HandS.Rev
import HandS.Strs
import KE.GoesOver
import KE.GoesEnum
import KE.GoesMore
import HandS.Walk
import HandS.Comp
import PyProof.StrLawsIn
import HandS.Codes
import HandS.Replace
import PyProof.StrLawsFirst
import PySem.Challenge.RW_lanternhouse_k85_whole_dead_runs
set_option Elab.async false
set_option linter.all false
set_option maxRecDepth 100000
set_option maxHeartbeats 200000
/-! E0: values without a heap, the little language, what it means (predicate transformers). -/
namespace Lh
/-- a value without a heap -/
inductive PV where
  | int (i : Int) | bl (b : Bool) | non | str (s : List Nat)
  | tup (l : List PV) | lst (l : List PV) | ro (l : List PV) | obj (c : Nat) (fs : List (Nat × PV)) | rng (lo hi : Int)
/-- a field of an object that is owned -/
inductive OF where
  | fz (p : PV) | lst (l : List PV)
/-- what a slot owns -/
inductive OV where
  | fz (p : PV) | lst (l : List PV) | obj (c : Nat) (fs : List (Nat × OF))
inductive Slot where
  | u | fz (p : PV) | ow (t : OV) | io (t : OV) | bo (t : OV)
abbrev Env := List Slot
inductive Md where
  | va | bo | io
inductive BOp where
  | add | sub | mul | fdiv | mod | pow
inductive COp where
  | eq | ne | lt | le | gt | ge | inn | notin | iss | isnot
inductive B1 where
  | len | list | tuple | int | all | any | sum | abs | lenset | sorted | sortedset | min | max
inductive B2 where
  | min | max
inductive M1 where
  | scount | lcount | lindex | join | sindex
/-- types that isinstance asks -/
inductive Ty where
  | int | bool | list | tuple | str | cls (c : Nat)
inductive Tg where
  | nm (i : Nat) | tp (ts : List Tg)
mutual
inductive E where
  | var (i : Nat) | ofld (i f : Nat) | cint (i : Int) | cbl (b : Bool) | cnon | cstr (s : List Nat) | gl (k : Nat) (p : PV)
  | bin (o : BOp) (a b : E) | neg (a : E) | cmp (o : COp) (a b : E) | chain (o o' : COp) (a b c : E)
  | and2 (a b : E) | and1 (a : E) | or2 (a b : E) | or1 (a : E) | nott (a : E) | ife (t : T) (a b : E)
  | tup (es : Es) | lst (es : Es) | ix (a b : E) | sl (a : E) (lo hi : EO) | slrev (a : E) | fld (a : E) (f : Nat)
  | call (j : Nat) (ms : List Md) (as : Es) | callO (j : Nat) (ms : List Md) (as : Es) | callk (j : Nat) (ms : List Md) (as ks : Es) (sel : List (Nat ⊕ PV))
  | make (c j : Nat) (ms : List Md) (as : Es) | makek (c j : Nat) (ms : List Md) (as ks : Es) (sel : List (Nat ⊕ PV))
  | meth (c m j : Nat) (ms : List Md) (o : E) (as : Es) | dun (c j : Nat) (a b : E)
  | bi1 (f : B1) (a : E) | bi2 (f : B2) (a b : E) | isi (a : E) (t : Ty) | isiT (a : E) (ts : List Ty) | m1 (m : M1) (a b : E)
  | rng (a b : E) | rng1 (a : E) | lrng (a : E) | lrng2 (a b : E)
  | comp (it : It) (tg : Tg) (c : TO) (e : E) (vs : List Nat) | comp2 (it : It) (tg : Tg) (c : TO) (it1 : It) (tg1 : Tg) (c1 : TO) (e : E) (vs vs1 : List Nat)
inductive EO where
  | none | some (e : E)
inductive Es where
  | nil | cons (e : E) (es : Es)
inductive T where
  | v (e : E) | not (t : T) | and2 (a b : T) | and1 (a : T) | or2 (a b : T) | or1 (a : T)
inductive TO where
  | none | some (t : T)
inductive It where
  | val (e : E) | rng1 (a : E) | rng2 (a b : E) | rng3 (a b c : E) | zip (a b : E) | enum (a : E) | rev (a : E) | txt (a : E)
end
/-- what may be written: a name's list, the list in a name's field -/
inductive LV where
  | nm (i : Nat) | fd (i f : Nat)
inductive Mu where
  | append | insert | pop | popat | clear | remove
mutual
inductive S where
  | pass | ex (e : E) | asg (i : Nat) (e : E) | tgt (t : Tg) (e : E) | par (i j : Nat) (a b : E)
  | setix (l : LV) (k e : E) | setix2 (l : LV) (k : E) (l' : LV) (k' : E) (e : E)
  | augv (i : Nat) (o : BOp) (e : E) | augix (l : LV) (k : E) (o : BOp) (e : E)
  | setfd (i c f : Nat) (e : E) | mu (m : Mu) (l : LV) (as : Es)
  | call (dst : Option Nat) (j : Nat) (ms : List Md) (as : Es) | mcall (dst : Option Nat) (c m j : Nat) (ms : List Md) (i : Nat) (as : Es)
  | mk (i c j : Nat) (ms : List Md) (as : Es)
  | iff (t : T) (a b : Ss) | for_ (t : Tg) (it : It) (b : Ss) | whil (t : T) (b : Ss)
  | ret (e : E) | retO (i : Nat) | retF (e : E) | retN | brk | cont | raise | frz (i : Nat)
inductive Ss where
  | nil | cons (s : S) (r : Ss)
end

/-! ### environments -/
def rdF (env : Env) (i : Nat) (Q : PV → Prop) : Prop := match env[i]? with
  | some (.fz p) => Q p
  | _ => False
/-- any reading: owned lists too -/
def rdB (env : Env) (i : Nat) (Q : PV → Prop) : Prop := match env[i]? with
  | some (.fz p) => Q p
  | some (.ow (.lst l)) => Q (.lst l)
  | some (.io (.lst l)) => Q (.lst l)
  | some (.bo (.fz p)) => Q p
  | _ => False
def objOf (env : Env) (i : Nat) : Option (Nat × List (Nat × OF)) := match env[i]? with
  | some (.ow (.obj c fs)) => some (c, fs)
  | some (.io (.obj c fs)) => some (c, fs)
  | some (.bo (.obj c fs)) => some (c, fs)
  | _ => none
def rdO (env : Env) (i f : Nat) (Q : PV → Prop) : Prop := match objOf env i with
  | some (_, fs) => (match fs.lookup f with
    | some (.fz p) => Q p
    | _ => False)
  | none => False
def rdOB (env : Env) (i f : Nat) (Q : PV → Prop) : Prop := match objOf env i with
  | some (_, fs) => (match fs.lookup f with
    | some (.fz p) => Q p
    | some (.lst l) => Q (.lst l)
    | none => False)
  | none => False
/-- the whole of what a slot has, for a callee that borrows it -/
def rdT (env : Env) (i : Nat) (Q : OV → Prop) : Prop := match env[i]? with
  | some (.fz p) => Q (.fz p)
  | some (.ow (.lst l)) => Q (.fz (.lst l))
  | some (.io (.lst l)) => Q (.fz (.lst l))
  | some (.ow (.obj c fs)) => Q (.obj c fs)
  | some (.io (.obj c fs)) => Q (.obj c fs)
  | some (.bo t) => Q t
  | _ => False
/-- what a slot owns, for a callee that changes it -/
def rdW (env : Env) (i : Nat) (Q : OV → Prop) : Prop := match env[i]? with
  | some (.ow (.lst l)) => Q (.lst l)
  | some (.io (.lst l)) => Q (.lst l)
  | some (.ow (.obj c fs)) => Q (.obj c fs)
  | some (.io (.obj c fs)) => Q (.obj c fs)
  | _ => False
/-- the slot's new content (its kind stays) -/
def putW (s : Slot) (t : OV) : Slot := match s with
  | .ow _ => .ow t
  | .io _ => .io t
  | s => s
def wipeE (env : Env) : List Nat → Env
  | [] => env
  | v :: vs => (wipeE env vs).set v .u

/-! ### operators on values -/
def MulOk (i j : Int) : Prop := (-(2 ^ 64) < i ∧ i < 2 ^ 64) ∨ (-(2 ^ 64) < j ∧ j < 2 ^ 64)
def opR (o : BOp) (x y : PV) (Q : PV → Prop) : Prop := match o, x, y with
  | .add, .int i, .int j => Q (.int (i + j))
  | .sub, .int i, .int j => Q (.int (i - j))
  | .mul, .int i, .int j => MulOk i j ∧ Q (.int (i * j))
  | .fdiv, .int i, .int j => (0 < j ∧ j < 1073741824) ∧ Q (.int (i / j))
  | .mod, .int i, .int j => 0 < j ∧ Q (.int (i % j))
  | .pow, .int i, .int j => (0 ≤ j ∧ j ≤ 1000000 ∧ i.natAbs < 2 ^ 64) ∧ Q (.int (i ^ j.toNat))
  | .add, .str s, .str t => s.length + t.length ≤ 16777216 ∧ Q (.str (s ++ t))
  | .add, .lst s, .lst t => s.length + t.length ≤ 16777216 ∧ Q (.lst (s ++ t))
  | .add, .tup s, .tup t => s.length + t.length ≤ 16777216 ∧ Q (.tup (s ++ t))
  | .mul, .str s, .int n => (0 ≤ n ∧ n ≤ 1) ∧ Q (.str (if n = 0 then [] else s))
  | .mul, .lst s, .int n => (-(2 ^ 63) ≤ n ∧ n < 2 ^ 63 ∧ s.length * n.toNat ≤ 16777216) ∧ Q (.lst (List.replicate n.toNat s).flatten)
  | _, _, _ => False
mutual
def eqPV : PV → PV → Bool
  | .int i, .int j => decide (i = j)
  | .bl b, .bl c => b == c
  | .bl a, .int b => (if a then 1 else 0) == b
  | .int a, .bl b => a == (if b then 1 else 0)
  | .non, .non => true
  | .str s, .str t => decide (s = t)
  | .tup a, .tup b => eqPVs a b
  | .lst a, .lst b => eqPVs a b
  | _, _ => false
def eqPVs : List PV → List PV → Bool
  | [], [] => true
  | a :: as, b :: bs => eqPV a b && eqPVs as bs
  | _, _ => false
end
mutual
/-- plain data: what == compares -/
def dataB : Nat → PV → Bool
  | _, .int _ => true
  | _, .bl _ => true
  | _, .non => true
  | _, .str s => s.all (· < 1114112)
  | n + 1, .tup l => dataBs n l
  | n + 1, .lst l => dataBs n l
  | _, _ => false
def dataBs : Nat → List PV → Bool
  | _, [] => true
  | n, a :: as => dataB n a && dataBs n as
end
/-- two scalars -/
def scalP : PV → PV → Bool
  | .non, .non => true | .non, .int _ => true | .int _, .non => true | .non, .bl _ => true | .bl _, .non => true | .non, .str _ => true | .str _, .non => true
  | .int _, .int _ => true | .bl _, .bl _ => true | .str _, .str _ => true | .int _, .str _ => true | .str _, .int _ => true | .bl _, .str _ => true | .str _, .bl _ => true
  | _, _ => false
/-- lists of different lengths -/
def lenNe : PV → PV → Bool
  | .lst a, .lst b => a.length != b.length
  | _, _ => false
def okEq (x y : PV) : Bool := (scalP x y || (dataB 8 x && dataB 8 y)) || lenNe x y
theorem eqPVs_len : ∀ {a b : List PV}, eqPVs a b = true → a.length = b.length
  | [], [], _ => rfl
  | [], _ :: _, h => by simp [eqPVs] at h
  | _ :: _, [], h => by simp [eqPVs] at h
  | _ :: as, _ :: bs, h => by
    simp only [eqPVs, Bool.and_eq_true] at h
    simp [eqPVs_len h.2]
theorem lenNe_eq {x y : PV} (h : lenNe x y = true) : ∃ a b, x = .lst a ∧ y = .lst b ∧ a.length ≠ b.length ∧ eqPV x y = false := by
  unfold lenNe at h
  split at h
  · rename_i a b
    have h : a.length ≠ b.length := by simpa using h
    refine ⟨a, b, rfl, rfl, h, ?_⟩
    rw [eqPV]
    cases e : eqPVs a b with
    | false => rfl
    | true => exact absurd (eqPVs_len e) h
  · cases h
def flatP : PV → Bool
  | .int _ => true
  | .bl _ => true
  | .non => true
  | .str _ => true
  | _ => false
def isNon : PV → Bool
  | .non => true
  | _ => false
/-- the items of a list or tuple -/
def seqOf : PV → Option (List PV)
  | .lst l => some l
  | .tup l => some l
  | .ro l => some l
  | _ => none
/-- a sign in a text -/
def sgnP : PV → PV → Option (Nat × List Nat)
  | .str [c], .str s => some (c, s)
  | _, _ => none
/-- data among the items of a list -/
def inD (x y : PV) : Bool := match y with
  | .lst _ => dataB 8 x && dataB 8 y
  | _ => false
def cmpR (o : COp) (x y : PV) (Q : PV → Prop) : Prop := match o with
  | .eq => okEq x y = true ∧ Q (.bl (eqPV x y))
  | .ne => okEq x y = true ∧ Q (.bl (!eqPV x y))
  | .lt => (match x, y with
    | .int i, .int j => Q (.bl (decide (i < j)))
    | _, _ => False)
  | .le => (match x, y with
    | .int i, .int j => Q (.bl (decide (i ≤ j)))
    | _, _ => False)
  | .gt => (match x, y with
    | .int i, .int j => Q (.bl (decide (j < i)))
    | _, _ => False)
  | .ge => (match x, y with
    | .int i, .int j => Q (.bl (decide (j ≤ i)))
    | _, _ => False)
  | .inn => (match sgnP x y with
    | some (c, s) => Q (.bl (decide (c ∈ s)))
    | none => ∃ l, seqOf y = some l ∧ ((flatP x = true ∧ l.all flatP = true) ∨ inD x y = true) ∧ Q (.bl (l.any fun z => eqPV z x)))
  | .notin => (match sgnP x y with
    | some (c, s) => Q (.bl (!decide (c ∈ s)))
    | none => ∃ l, seqOf y = some l ∧ ((flatP x = true ∧ l.all flatP = true) ∨ inD x y = true) ∧ Q (.bl (!l.any fun z => eqPV z x)))
  | .iss => isNon y = true ∧ Q (.bl (isNon x))
  | .isnot => isNon y = true ∧ Q (.bl (!isNon x))
/-- Python's index -/
def pyIx (n : Nat) (i : Int) : Option Nat := if 0 ≤ i then (if i < n then some i.toNat else none) else if -(n : Int) ≤ i then some (i + n).toNat else none
def ixR (x y : PV) (Q : PV → Prop) : Prop := match x, y with
  | .str s, .int i => ∃ k c, pyIx s.length i = some k ∧ s.length ≤ 16777216 ∧ s[k]? = some c ∧ Q (.str [c])
  | .lst l, .int i => ∃ k p, pyIx l.length i = some k ∧ l[k]? = some p ∧ Q p
  | .tup l, .int i => ∃ k p, pyIx l.length i = some k ∧ l[k]? = some p ∧ Q p
  | .ro l, .int i => ∃ k p, pyIx l.length i = some k ∧ l[k]? = some p ∧ Q p
  | _, _ => False
/-- an end of a slice (None: the default d) -/
def slEnd (n : Nat) (d : Nat) : Option Int → Nat
  | none => d
  | some i => if 0 ≤ i then min i.toNat n else (i + n).toNat
def cutP {α : Type} (l : List α) (lo hi : Option Int) : List α := (l.drop (slEnd l.length 0 lo)).take (slEnd l.length l.length hi - slEnd l.length 0 lo)
def slR (x : PV) (i j : Option Int) (Q : PV → Prop) : Prop := match x with
  | .lst l => Q (.lst (cutP l i j))
  | .str s => s.length ≤ 16777216 ∧ Q (.str (cutP s i j))
  | .tup l => Q (.tup (cutP l i j))
  | _ => False
def slrevR (x : PV) (Q : PV → Prop) : Prop := match x with
  | .lst l => Q (.lst l.reverse)
  | .tup l => Q (.tup l.reverse)
  | _ => False
def fldR (x : PV) (f : Nat) (Q : PV → Prop) : Prop := match x with
  | .obj _ fs => (match fs.lookup f with
    | some p => Q p
    | none => False)
  | _ => False
def ofFz : OF → PV
  | .fz p => p
  | .lst l => .lst l
def frzO : OV → PV
  | .fz p => p
  | .lst l => .lst l
  | .obj c fs => .obj c (fs.map fun q => (q.1, ofFz q.2))
def intsOf : List PV → Option (List Int)
  | [] => some []
  | .int i :: r => (intsOf r).map (i :: ·)
  | _ :: _ => none
def blsOf : List PV → Option (List Bool)
  | [] => some []
  | .bl i :: r => (blsOf r).map (i :: ·)
  | _ :: _ => none
def strsOf : List PV → Option (List (List Nat))
  | [] => some []
  | .str i :: r => (strsOf r).map (i :: ·)
  | _ :: _ => none
def lenP : PV → Option Nat
  | .str s => some s.length
  | .lst l => some l.length
  | .tup l => some l.length
  | .ro l => some l.length
  | _ => none
def bi1R (f : B1) (x : PV) (Q : PV → Prop) : Prop := match f with
  | .len => (match x with
    | .str s => s.length ≤ 16777216 ∧ Q (.int s.length)
    | .lst l => Q (.int l.length)
    | .tup l => Q (.int l.length)
    | .ro l => Q (.int l.length)
    | _ => False)
  | .list => (match x with
    | .lst l => Q (.lst l)
    | .ro l => Q (.lst l)
    | .tup l => Q (.lst l)
    | _ => False)
  | .tuple => (match x with
    | .lst l => Q (.tup l)
    | .ro l => Q (.tup l)
    | .tup l => Q (.tup l)
    | _ => False)
  | .int => (match x with
    | .int i => Q (.int i)
    | .bl b => Q (.int (if b then 1 else 0))
    | _ => False)
  | .all => (match x with
    | .lst l => ∃ bs, blsOf l = some bs ∧ Q (.bl (bs.all id))
    | _ => False)
  | .any => (match x with
    | .lst l => ∃ bs, blsOf l = some bs ∧ Q (.bl (bs.any id))
    | _ => False)
  | .sum => (match x with
    | .lst l => ∃ ns, intsOf l = some ns ∧ Q (.int ns.sum)
    | .ro l => ∃ ns, intsOf l = some ns ∧ Q (.int ns.sum)
    | _ => False)
  | .abs => (match x with
    | .int i => Q (.int (if i < 0 then -i else i))
    | _ => False)
  | .lenset => (match x with
    | .lst l => ∃ ns, intsOf l = some ns ∧ ns.length < 1000 ∧ ∀ k : Nat, (∃ ms : List Int, ms.Nodup ∧ (∀ z, z ∈ ms ↔ z ∈ ns) ∧ ms.length = k) → Q (.int (k : Nat))
    | .str s => (s.length < 1000 ∧ s.Nodup) ∧ Q (.int (s.length : Nat))
    | _ => False)
  | .sorted => (match x with
    | .lst l => ∃ ns, intsOf l = some ns ∧ ∀ ms : List Int, ms.Perm ns → ms.Pairwise (· ≤ ·) → Q (.lst (ms.map .int))
    | _ => False)
  | .sortedset => False
  | .min => (match x with
    | .lst l => ∃ ns, intsOf l = some ns ∧ 0 < ns.length ∧ ∀ m, m ∈ ns → (∀ y, y ∈ ns → m ≤ y) → Q (.int m)
    | _ => False)
  | .max => (match x with
    | .lst l => ∃ ns, intsOf l = some ns ∧ 0 < ns.length ∧ ∀ m, m ∈ ns → (∀ y, y ∈ ns → y ≤ m) → Q (.int m)
    | _ => False)
def bi2R (f : B2) (x y : PV) (Q : PV → Prop) : Prop := match f, x, y with
  | .min, .int i, .int j => Q (.int (if j < i then j else i))
  | .max, .int i, .int j => Q (.int (if j > i then j else i))
  | _, _, _ => False
def m1K : M1 → PV → Bool
  | .scount, .str _ => true
  | .lcount, .lst _ => true
  | .lindex, .lst _ => true
  | .sindex, .str _ => true
  | .join, .str _ => true
  | _, _ => false
def m1R (m : M1) (x y : PV) (Q : PV → Prop) : Prop := match m, x, y with
  | .scount, .str s, .str [c] => Q (.int (s.count c : Nat))
  | .join, .str [], .lst l => ∃ ss, strsOf l = some ss ∧ (ss.map List.length).sum ≤ 16777216 ∧ Q (.str ss.flatten)
  | .lcount, .lst l, .int i => ∃ ns, intsOf l = some ns ∧ Q (.int (ns.count i : Nat))
  | .sindex, .str s, .str [c] => ∃ i : Nat, s[i]? = some c ∧ (∀ k, k < i → s[k]? ≠ some c) ∧ Q (.int (i : Nat))
  | .lindex, .lst l, y => flatP y = true ∧ l.all flatP = true ∧ ∃ (j : Nat) (z : PV), l[j]? = some z ∧ eqPV z y = true ∧ (∀ (k : Nat) (z' : PV), k < j → l[k]? = some z' → eqPV z' y = false) ∧ Q (.int (j : Nat))
  | _, _, _ => False
def isTy : PV → Ty → Bool
  | .int _, .int => true
  | .bl _, .int => true
  | .bl _, .bool => true
  | .str _, .str => true
  | .lst _, .list => true
  | .tup _, .tuple => true
  | .obj c _, .cls d => c == d
  | _, _ => false
/-- values whose type isinstance is asked about -/
def tyOk : PV → Bool
  | .ro _ => false
  | .rng _ _ => false
  | _ => true
def truP : PV → Option Bool
  | .bl b => some b
  | .non => some false
  | .int i => some (i != 0)
  | .lst l => some (!l.isEmpty)
  | .tup l => some (!l.isEmpty)
  | _ => none
def truR (p : PV) (Q : Bool → Prop) : Prop := ∃ b, truP p = some b ∧ Q b
/-- what a target takes -/
def unT : PV → Nat → (List PV → Prop) → Prop
  | .tup l, n, Q => l.length = n ∧ Q l
  | _, _, _ => False
mutual
def bindT : Tg → PV → Env → (Env → Prop) → Prop
  | .nm i, p, env, Q => Q (env.set i (.fz p))
  | .tp ts, p, env, Q => unT p ts.length fun l => bindTs ts l env Q
def bindTs : List Tg → List PV → Env → (Env → Prop) → Prop
  | [], _, env, Q => Q env
  | t :: ts, [], env, Q => False
  | t :: ts, p :: ps, env, Q => bindT t p env fun env' => bindTs ts ps env' Q
end
def compL (f : PV → (Option PV → Prop) → Prop) : List PV → List PV → (List PV → Prop) → Prop
  | [], acc, Q => Q acc
  | x :: xs, acc, Q => f x fun r => match r with
    | none => compL f xs acc Q
    | some y => acc.length < 16777216 ∧ compL f xs (acc ++ [y]) Q
/-- two for's: the inner one adds to what is there -/
def compL2 (f : PV → List PV → (List PV → Prop) → Prop) : List PV → List PV → (List PV → Prop) → Prop
  | [], acc, Q => Q acc
  | x :: xs, acc, Q => f x acc fun acc' => compL2 f xs acc' Q
def rangeL (lo : Int) (n : Nat) : List PV := (List.range n).map fun (i : Nat) => .int (lo + (i : Nat))
def R62 (i : Int) : Prop := -(2 ^ 62) ≤ i ∧ i < 2 ^ 62
/-- range(i, j, c)'s number of turns -/
def rngN (i j c : Int) : Nat := if 0 < c then (if i < j then ((j - i - 1) / c + 1).toNat else 0) else (if j < i then ((i - j - 1) / (-c) + 1).toNat else 0)
def rangeC (i c : Int) (n : Nat) : List PV := (List.range n).map fun (k : Nat) => .int (i + (k : Nat) * c)
def pick (ks : List PV) : List (Nat ⊕ PV) → Option (List PV)
  | [] => some []
  | .inl n :: r => (match ks[n]? with
    | some p => (pick ks r).map (p :: ·)
    | none => none)
  | .inr p :: r => (pick ks r).map (p :: ·)
/-- a reading that may borrow -/
def borR (e : E) (k : (PV → Prop) → Prop) (env : Env) (Q : PV → Prop) : Prop := match e with
  | .var i => rdB env i Q
  | .ofld i f => rdOB env i f Q
  | _ => k Q
def bovR (b : Bool) (e : E) (k : (PV → Prop) → Prop) (env : Env) (Q : PV → Prop) : Prop := match b with
  | true => borR e k env Q
  | false => k Q
/-- an argument, by its mode -/
def argR (m : Md) (e : E) (k : (PV → Prop) → Prop) (env : Env) (Q : OV → Prop) : Prop := match m, e with
  | .bo, .var i => rdT env i Q
  | .bo, .ofld i f => rdOB env i f fun p => Q (.fz p)
  | .io, .var i => rdW env i Q
  | .io, _ => False
  | _, _ => k fun p => Q (.fz p)
/-- an object of the class c -/
def isObj (c : Nat) : OV → Bool
  | .obj d _ => d == c
  | .fz (.obj d _) => d == c
  | _ => false
def itR (p : PV) (Q : List PV → Prop) : Prop := match p with
  | .lst l => Q l
  | .ro l => Q l
  | .tup l => Q l
  | .rng i j => Q (rangeL i (j - i).toNat)
  | .str s => Q (s.map fun c => .str [c])
  | _ => False
def enumL (n : Nat) : List PV → List PV
  | [] => []
  | p :: ps => .tup [.int n, p] :: enumL (n + 1) ps
abbrev SpT := Nat → List OV → (PV → List OV → Prop) → Prop
section
variable (sp : SpT)
mutual
def evP : E → Env → (PV → Prop) → Prop
  | .var i, env, Q => rdF env i Q
  | .ofld i f, env, Q => rdO env i f Q
  | .cint i, env, Q => Q (.int i)
  | .cbl b, env, Q => Q (.bl b)
  | .cnon, env, Q => Q .non
  | .cstr s, env, Q => Q (.str s)
  | .gl _ p, env, Q => Q p
  | .bin o a b, env, Q => borR a (evP a env) env fun x => borR b (evP b env) env fun y => opR o x y Q
  | .neg a, env, Q => evP a env fun x => match x with
    | .int i => Q (.int (-i))
    | _ => False
  | .cmp o a b, env, Q => borR a (evP a env) env fun x => borR b (evP b env) env fun y => cmpR o x y Q
  | .chain o o' a b c, env, Q => evP a env fun x => evP b env fun y => cmpR o x y fun r => match r with
    | .bl true => evP c env fun z => cmpR o' y z Q
    | .bl false => Q (.bl false)
    | _ => False
  | .and2 a b, env, Q => evP a env fun x => match x with
    | .bl true => evP b env Q
    | .bl false => Q (.bl false)
    | _ => False
  | .and1 a, env, Q => evP a env Q
  | .or2 a b, env, Q => evP a env fun x => match x with
    | .bl true => Q (.bl true)
    | .bl false => evP b env Q
    | _ => False
  | .or1 a, env, Q => evP a env Q
  | .nott a, env, Q => evP a env fun x => match x with
    | .bl b => Q (.bl (!b))
    | _ => False
  | .ife t a b, env, Q => evT t env fun c => if c = true then evP a env Q else evP b env Q
  | .tup es, env, Q => evEs es env fun l => Q (.tup l)
  | .lst es, env, Q => evEs es env fun l => Q (.lst l)
  | .ix a b, env, Q => borR a (evP a env) env fun x => evP b env fun y => ixR x y Q
  | .sl a lo hi, env, Q => borR a (evP a env) env fun x => evO lo env fun l => evO hi env fun h => slR x l h Q
  | .slrev a, env, Q => borR a (evP a env) env fun x => slrevR x Q
  | .fld a f, env, Q => evP a env fun x => fldR x f Q
  | .call j ms as, env, Q => evAs as ms env fun ts => sp j ts fun p _ => Q p
  | .callO j ms as, env, Q => evAs as ms env fun ts => sp j ts fun p _ => Q p
  | .callk j ms as ks sel, env, Q => evAs as ms env fun ts => evEs ks env fun l => ∃ ds, pick l sel = some ds ∧ sp j (ts ++ ds.map .fz) fun p _ => Q p
  | .make c j ms as, env, Q => evAs as ms env fun ts => sp j (.obj c [] :: ts) fun p os => p = .non ∧ ∃ fs, os = [.obj c fs] ∧ Q (frzO (.obj c fs))
  | .makek c j ms as ks sel, env, Q => evAs as ms env fun ts => evEs ks env fun l => ∃ ds, pick l sel = some ds ∧ sp j (.obj c [] :: (ts ++ ds.map .fz)) fun p os => p = .non ∧ ∃ fs, os = [.obj c fs] ∧ Q (frzO (.obj c fs))
  | .meth c m j ms o as, env, Q => argR .bo o (evP o env) env fun t => isObj c t = true ∧ evAs as ms env fun ts => sp j (t :: ts) fun p _ => Q p
  | .dun c j a b, env, Q => evP a env fun x => evP b env fun y => isObj c (.fz x) = true ∧ isObj c (.fz y) = true ∧ sp j [.fz x, .fz y] fun p _ => Q p
  | .bi1 f a, env, Q => borR a (evP a env) env fun x => bi1R f x Q
  | .bi2 f a b, env, Q => evP a env fun x => evP b env fun y => bi2R f x y Q
  | .isi a t, env, Q => borR a (evP a env) env fun x => tyOk x = true ∧ Q (.bl (isTy x t))
  | .isiT a ts, env, Q => borR a (evP a env) env fun x => tyOk x = true ∧ Q (.bl (ts.any (isTy x)))
  | .m1 m a b, env, Q => borR a (evP a env) env fun x => m1K m x = true ∧ evP b env fun y => m1R m x y Q
  | .rng a b, env, Q => evP a env fun x => evP b env fun y => match x, y with
    | .int i, .int j => (R62 i ∧ R62 j) ∧ Q (.rng i j)
    | _, _ => False
  | .rng1 a, env, Q => evP a env fun x => match x with
    | .int j => R62 j ∧ Q (.rng 0 j)
    | _ => False
  | .lrng a, env, Q => evP a env fun x => match x with
    | .int j => (-16777216 ≤ j ∧ j ≤ 16777216) ∧ Q (.lst (rangeL 0 j.toNat))
    | _ => False
  | .lrng2 a b, env, Q => evP a env fun x => evP b env fun y => match x, y with
    | .int i, .int j => ((0 ≤ i ∧ i ≤ 16777216) ∧ -16777216 ≤ j ∧ j ≤ 16777216) ∧ Q (.lst (rangeL i (j - i).toNat))
    | _, _ => False
  | .comp it tg c e vs, env, Q => evI true it env fun items => compL (fun x k => bindT tg x (wipeE env vs) fun env' => evTO c env' fun b => if b = true then evP e env' fun y => k (some y) else k none) items [] fun l => Q (.lst l)
  | .comp2 it tg c it1 tg1 c1 e vs vs1, env, Q => evI true it env fun items => compL2 (fun x acc k => bindT tg x (wipeE env vs) fun env' => evTO c env' fun b => if b = true then
      evI false it1 env' fun items1 => compL (fun x1 k1 => bindT tg1 x1 (wipeE env' vs1) fun env2 => evTO c1 env2 fun b1 => if b1 = true then evP e env2 fun y => k1 (some y) else k1 none) items1 acc k
    else k acc) items [] fun l => Q (.lst l)
def evO : EO → Env → (Option Int → Prop) → Prop
  | .none, env, Q => Q none
  | .some e, env, Q => evP e env fun p => match p with
    | .int i => Q (some i)
    | _ => False
def evEs : Es → Env → (List PV → Prop) → Prop
  | .nil, env, Q => Q []
  | .cons e es, env, Q => evP e env fun p => evEs es env fun ps => Q (p :: ps)
def evAs : Es → List Md → Env → (List OV → Prop) → Prop
  | .nil, _, env, Q => Q []
  | .cons e es, [], env, Q => False
  | .cons e es, m :: ms, env, Q => argR m e (evP e env) env fun t => evAs es ms env fun ts => Q (t :: ts)
def evT : T → Env → (Bool → Prop) → Prop
  | .v e, env, Q => evP e env fun p => truR p Q
  | .not t, env, Q => evT t env fun b => Q (!b)
  | .and2 a b, env, Q => evT a env fun c => if c = true then evT b env Q else Q false
  | .and1 a, env, Q => evT a env Q
  | .or2 a b, env, Q => evT a env fun c => if c = true then Q true else evT b env Q
  | .or1 a, env, Q => evT a env Q
def evTO : TO → Env → (Bool → Prop) → Prop
  | .none, env, Q => Q true
  | .some t, env, Q => evT t env Q
def evI (b : Bool) : It → Env → (List PV → Prop) → Prop
  | .val e, env, Q => bovR b e (evP e env) env fun p => itR p Q
  | .rng1 a, env, Q => evP a env fun x => match x with
    | .int j => R62 j ∧ Q (rangeL 0 j.toNat)
    | _ => False
  | .rng2 a c, env, Q => evP a env fun x => evP c env fun y => match x, y with
    | .int i, .int j => (R62 i ∧ R62 j) ∧ Q (rangeL i (j - i).toNat)
    | _, _ => False
  | .rng3 a c d, env, Q => evP a env fun x => evP c env fun y => evP d env fun z => match x, y, z with
    | .int i, .int j, .int k => (R62 i ∧ R62 j ∧ k ≠ 0 ∧ -1000000 < k ∧ k < 1000000) ∧ Q (rangeC i k (rngN i j k))
    | _, _, _ => False
  | .zip a c, env, Q => bovR b a (evP a env) env fun x => bovR b c (evP c env) env fun y => ∃ l m, seqOf x = some l ∧ seqOf y = some m ∧ Q (List.zipWith (fun p q => .tup [p, q]) l m)
  | .enum a, env, Q => bovR b a (evP a env) env fun x => ∃ l, seqOf x = some l ∧ Q (enumL 0 l)
  | .rev a, env, Q => bovR b a (evP a env) env fun x => ∃ l, seqOf x = some l ∧ Q l.reverse
  | .txt a, env, Q => evP a env fun x => match x with
    | .str s => Q (s.map fun c => .str [c])
    | _ => False
end
end

/-! ### statements -/
inductive R where
  | nx (env : Env) | bk (env : Env) | ct (env : Env) | rt (p : PV) (env : Env) | ro (l : List PV) (env : Env)
/-- expressions that give a list that nobody else holds -/
def isFresh : E → Bool
  | .lst _ => true
  | .comp .. => true
  | .comp2 .. => true
  | .bin .add _ _ => true
  | .bin .mul _ _ => true
  | .sl .. => true
  | .slrev _ => true
  | .bi1 .list _ => true
  | .bi1 .sorted _ => true
  | .lrng _ => true
  | .lrng2 _ _ => true
  | .callO .. => true
  | _ => false
def mkS (e : E) (p : PV) : Slot := match isFresh e, p with
  | true, .lst l => .ow (.lst l)
  | _, p => .fz p
def mkF (e : E) (p : PV) : OF := match isFresh e, p with
  | true, .lst l => .lst l
  | _, p => .fz p
def putFd (fs : List (Nat × OF)) (f : Nat) (x : OF) : List (Nat × OF) := match fs with
  | [] => [(f, x)]
  | (k, y) :: r => if k = f then (k, x) :: r else (k, y) :: putFd r f x
def lvR (l : LV) (env : Env) (Q : List PV → Prop) : Prop := match l with
  | .nm i => (match env[i]? with
    | some (.ow (.lst l)) => Q l
    | some (.io (.lst l)) => Q l
    | _ => False)
  | .fd i f => (match env[i]? with
    | some (.ow (.obj _ fs)) => (match fs.lookup f with
      | some (.lst l) => Q l
      | _ => False)
    | some (.io (.obj _ fs)) => (match fs.lookup f with
      | some (.lst l) => Q l
      | _ => False)
    | _ => False)
def lvSet (l : LV) (env : Env) (ls : List PV) : Env := match l with
  | .nm i => (match env[i]? with
    | some s => env.set i (putW s (.lst ls))
    | none => env)
  | .fd i f => (match env[i]? with
    | some (.ow (.obj c fs)) => env.set i (.ow (.obj c (putFd fs f (.lst ls))))
    | some (.io (.obj c fs)) => env.set i (.io (.obj c (putFd fs f (.lst ls))))
    | _ => env)
def muR (m : Mu) (l : List PV) (as : List PV) (Q : List PV → PV → Prop) : Prop := match m, as with
  | .append, [y] => l.length < 16777216 ∧ Q (l ++ [y]) .non
  | .insert, [.int i, y] => (l.length < 16777216 ∧ 0 ≤ i ∧ i < 2 ^ 63) ∧ Q (l.take i.toNat ++ [y] ++ l.drop i.toNat) .non
  | .pop, [] => ∃ y, l[l.length - 1]? = some y ∧ Q l.dropLast y
  | .popat, [.int i] => ∃ k y, (-(2 ^ 63) ≤ i ∧ i < 2 ^ 63) ∧ pyIx l.length i = some k ∧ l[k]? = some y ∧ Q (l.eraseIdx k) y
  | .clear, [] => Q [] .non
  | _, _ => False
def augR (o : BOp) (x y : PV) (Q : PV → Prop) : Prop := match o, x, y with
  | .add, .int i, .int j => Q (.int (i + j))
  | .sub, .int i, .int j => Q (.int (i - j))
  | .add, .str s, .str t => s.length + t.length ≤ 16777216 ∧ Q (.str (s ++ t))
  | _, _, _ => False
/-- .. of a name: tuples, too -/
def augvR (o : BOp) (x y : PV) (Q : PV → Prop) : Prop := match o, x, y with
  | .add, .tup l, .tup m => l.length + m.length ≤ 16777216 ∧ Q (.tup (l ++ m))
  | o, x, y => augR o x y Q
def forL (f : PV → Env → (R → Prop) → Prop) : List PV → Env → (R → Prop) → Prop
  | [], env, Q => Q (.nx env)
  | x :: xs, env, Q => f x env fun r => match r with
    | .nx e => forL f xs e Q
    | .ct e => forL f xs e Q
    | .bk e => Q (.nx e)
    | .rt p e => Q (.rt p e)
    | .ro p e => Q (.ro p e)
/-- a slot that owns -/
def ioS : Slot → Bool
  | .ow (.lst _) => true
  | .ow (.obj _ _) => true
  | .io (.lst _) => true
  | .io (.obj _ _) => true
  | _ => false
/-- what is given away to be changed is owned -/
def ioB : Es → List Md → Env → Bool
  | .nil, _, _ => true
  | .cons _ _, [], _ => true
  | .cons (.var i) es, .io :: ms, env => (match env[i]? with
    | some s => ioS s
    | none => false) && ioB es ms env
  | .cons _ _, .io :: _, _ => false
  | .cons _ es, _ :: ms, env => ioB es ms env
/-- the changed things are written back -/
def wrB : Es → List Md → List OV → Env → Option Env
  | .nil, _, [], env => some env
  | .nil, _, _ :: _, _ => none
  | .cons _ _, [], _, _ => none
  | .cons (.var i) es, .io :: ms, t :: ts, env => (match env[i]? with
    | some s => wrB es ms ts (env.set i (putW s t))
    | none => none)
  | .cons _ _, .io :: _, _, _ => none
  | .cons _ es, _ :: ms, ts, env => wrB es ms ts env
def frzR (env : Env) (i : Nat) (Q : Env → Prop) : Prop := match env[i]? with
  | some (.ow t) => Q (env.set i (.fz (frzO t)))
  | some (.fz _) => Q env
  | _ => False
/-- a new list is returned -/
def retFR (b : Bool) (p : PV) (env : Env) (Q : R → Prop) : Prop := match b, p with
  | true, .lst l => Q (.ro l env)
  | _, _ => False
/-- a list that is owned is returned -/
def retOR (env : Env) (i : Nat) (Q : R → Prop) : Prop := match env[i]? with
  | some (.ow (.lst l)) => Q (.ro l (env.set i (.fz (.lst l))))
  | _ => False
def fdR (env : Env) (i c f : Nat) (x : OF) (Q : Env → Prop) : Prop := match env[i]? with
  | some (.ow (.obj d fs)) => (d = c ∧ fs.length < 100) ∧ Q (env.set i (.ow (.obj d (putFd fs f x))))
  | some (.io (.obj d fs)) => (d = c ∧ fs.length < 100) ∧ Q (env.set i (.io (.obj d (putFd fs f x))))
  | _ => False
def dstE (d : Option Nat) (p : PV) (env : Env) : Env := match d with
  | none => env
  | some i => env.set i (.fz p)
section
variable (sp : SpT)
mutual
def evS : S → Env → (R → Prop) → Prop
  | .pass, env, Q => Q (.nx env)
  | .ex e, env, Q => evP sp e env fun _ => Q (.nx env)
  | .asg i e, env, Q => evP sp e env fun p => Q (.nx (env.set i (mkS e p)))
  | .tgt t e, env, Q => evP sp e env fun p => bindT t p env fun env' => Q (.nx env')
  | .par i j a b, env, Q => evP sp a env fun x => evP sp b env fun y => Q (.nx ((env.set i (mkS a x)).set j (mkS b y)))
  | .setix l k e, env, Q => evP sp e env fun v => lvR l env fun ls => evP sp k env fun y => match y with
    | .int n => ∃ j, pyIx ls.length n = some j ∧ Q (.nx (lvSet l env (ls.set j v)))
    | _ => False
  | .setix2 l k l' k' e, env, Q => evP sp e env fun v => lvR l env fun ls => evP sp k env fun y => match y with
    | .int n => ∃ j, pyIx ls.length n = some j ∧ lvR l' (lvSet l env (ls.set j v)) fun ls' => evP sp k' (lvSet l env (ls.set j v)) fun y' => (match y' with
      | .int n' => ∃ j', pyIx ls'.length n' = some j' ∧ Q (.nx (lvSet l' (lvSet l env (ls.set j v)) (ls'.set j' v)))
      | _ => False)
    | _ => False
  | .augv i o e, env, Q => rdF env i fun x => evP sp e env fun y => augvR o x y fun z => Q (.nx (env.set i (.fz z)))
  | .augix l k o e, env, Q => lvR l env fun ls => evP sp k env fun y => match y with
    | .int n => ∃ j p, pyIx ls.length n = some j ∧ ls[j]? = some p ∧ evP sp e env fun v => augR o p v fun z => Q (.nx (lvSet l env (ls.set j z)))
    | _ => False
  | .setfd i c f e, env, Q => evP sp e env fun p => fdR env i c f (mkF e p) fun env' => Q (.nx env')
  | .mu m l as, env, Q => lvR l env fun ls => evEs sp as env fun ps => muR m ls ps fun ls' _ => Q (.nx (lvSet l env ls'))
  | .call d j ms as, env, Q => ioB as ms env = true ∧ evAs sp as ms env fun ts => sp j ts fun p os => ∃ env', wrB as ms os env = some env' ∧ Q (.nx (dstE d p env'))
  | .mcall d c m j ms i as, env, Q => ioB (.cons (.var i) as) (.io :: ms) env = true ∧ argR .io (.var i) (evP sp (.var i) env) env fun t => isObj c t = true ∧ evAs sp as ms env fun ts => sp j (t :: ts) fun p os => ∃ env', wrB (.cons (.var i) as) (.io :: ms) os env = some env' ∧ Q (.nx (dstE d p env'))
  | .mk i c j ms as, env, Q => evAs sp as ms env fun ts => sp j (.obj c [] :: ts) fun p os => p = .non ∧ ∃ fs, os = [.obj c fs] ∧ Q (.nx (env.set i (.ow (.obj c fs))))
  | .iff t a b, env, Q => evT sp t env fun c => if c = true then evSs a env Q else evSs b env Q
  | .for_ t it b, env, Q => evI sp false it env fun items => forL (fun x env k => bindT t x env fun env' => evSs b env' k) items env Q
  | .whil t b, env, Q => ∃ W : Nat → Env → Prop, (∃ m, W m env) ∧ ∀ m env, W m env → evT sp t env fun c => if c = true then
      evSs b env (fun r => match r with
        | .nx e => ∃ m', m' < m ∧ W m' e
        | .ct e => ∃ m', m' < m ∧ W m' e
        | .bk e => Q (.nx e)
        | .rt p e => Q (.rt p e)
        | .ro p e => Q (.ro p e))
    else Q (.nx env)
  | .ret e, env, Q => evP sp e env fun p => Q (.rt p env)
  | .retO i, env, Q => retOR env i Q
  | .retF e, env, Q => evP sp e env fun p => retFR (isFresh e) p env Q
  | .retN, env, Q => Q (.rt .non env)
  | .brk, env, Q => Q (.bk env)
  | .cont, env, Q => Q (.ct env)
  | .raise, env, Q => False
  | .frz i, env, Q => frzR env i fun env' => Q (.nx env')
def evSs : Ss → Env → (R → Prop) → Prop
  | .nil, env, Q => Q (.nx env)
  | .cons s r, env, Q => evS s env fun x => match x with
    | .nx e => evSs r e Q
    | .bk e => Q (.bk e)
    | .ct e => Q (.ct e)
    | .rt p e => Q (.rt p e)
    | .ro p e => Q (.ro p e)
end
end
/-! ### defs -/
def initE : List Md → List OV → Option Env
  | [], [] => some []
  | .va :: ms, .fz p :: ts => (initE ms ts).map (.fz p :: ·)
  | .bo :: ms, t :: ts => (initE ms ts).map (.bo t :: ·)
  | .io :: ms, .lst l :: ts => (initE ms ts).map (.io (.lst l) :: ·)
  | .io :: ms, .obj c fs :: ts => (initE ms ts).map (.io (.obj c fs) :: ·)
  | _, _ => none
def outs : List Md → Env → Option (List OV)
  | [], _ => some []
  | .io :: ms, .io t :: env => (outs ms env).map (t :: ·)
  | .io :: _, _ => none
  | _ :: ms, _ :: env => outs ms env
  | _ :: _, [] => none
def evD (sp : SpT) (ms : List Md) (n : Nat) (b : Ss) (ts : List OV) (Q : PV → List OV → Prop) : Prop :=
  ∃ e0, initE ms ts = some e0 ∧ evSs sp b (e0 ++ List.replicate (n - e0.length) .u) fun r => match r with
    | .rt p env => ∃ os, outs ms env = some os ∧ Q p os
    | .ro l env => ∃ os, outs ms env = some os ∧ Q (.lst l) os
    | .nx env => ∃ os, outs ms env = some os ∧ Q .non os
    | _ => False
/-- a def that gives a list that nobody else holds -/
def evDO (sp : SpT) (ms : List Md) (n : Nat) (b : Ss) (ts : List OV) (Q : PV → List OV → Prop) : Prop :=
  ∃ e0, initE ms ts = some e0 ∧ evSs sp b (e0 ++ List.replicate (n - e0.length) .u) fun r => match r with
    | .ro l env => ∃ os, outs ms env = some os ∧ Q (.lst l) os
    | _ => False
def evDf (w : Bool) (sp : SpT) (ms : List Md) (n : Nat) (b : Ss) (ts : List OV) (Q : PV → List OV → Prop) : Prop := match w with
  | true => evDO sp ms n b ts Q
  | false => evD sp ms n b ts Q
end Lh
/-! EA: what a text is, what is asked of its heap -/
namespace Lh
open PySem PySem.Spec PyProof.Rows L2
structure FnS where
  name : Str
  cls : Option Nat
  ps : List Str
  ms : List Md
  kwn : List Str
  dfl : List PV
  kns : List (List Str)
  N : List Str
  body : Ss
  lv : Nat
  own : Bool := false
structure Tab where
  nm : List Str
  cl : List Str
  gl : List (Str × PV)
  fn : List FnS
  na : List (Nat × Nat)
def bltNames : List Str := ["len", "list", "tuple", "int", "bool", "str", "all", "any", "sum", "abs", "sorted", "min", "max", "range", "zip", "enumerate", "reversed", "isinstance", "set"]
def tyNames : List String := ["NoneType", "bool", "int", "str", "list", "tuple"]
def clN (B : Tab) (c : Nat) : Str := B.cl.getD c ""
def atOf (B : Tab) (f : FnS) : Str × Option Str := match f.cls with
  | none => (f.name, none)
  | some c => (clN B c, some f.name)
def faF (B : Tab) (f : FnS) : He.Fa := match f.cls with
  | none => .glo f.name
  | some c => if f.name = ("__init__" : Str) then .mkr (clN B c) else .meth (clN B c) f.name
def faG (q : Str × PV) : He.Fa := match q.2 with
  | .str s => .str q.1 ⟨s.toArray⟩
  | .int i => .int q.1 i
  | _ => .free q.1
def faOf (B : Tab) : List He.Fa := B.fn.map (faF B) ++ (B.cl.map He.Fa.cls ++ (B.cl.map He.Fa.glo ++ (B.na.map (fun p => He.Fa.noat (clN B p.1) (B.nm.getD p.2 "")) ++ (bltNames.map He.Fa.free ++ B.gl.map faG))))
def isiB (cl : List Str) (K : PySem.W.Frag) : Bool :=
  (cl.all fun x => decide (PySem.W.findIn K (.ref (He.ga K x)) "__class__" = some (some (.builtin "object.__class__"))) && decide (PySem.W.mroIn K (He.ga K x) (.type "object") = some true)) &&
  (cl.isEmpty || (decide (PySem.W.specialIn K (.builtin "object.__class__") "__get__" = some (some (.builtin "getset_descriptor.__get__"))) && decide (PySem.W.takesIn K (.builtin "object.__class__") = some true))) &&
  (cl.all fun x => cl.all fun y => decide (PySem.W.kitOne K (.ref (He.ga K x)) (.ref (He.ga K y)) = some (x == y))) &&
  (cl.all fun x => tyNames.all fun n => decide (PySem.W.kitOne K (.ref (He.ga K x)) (.type n) = some false) && decide (PySem.W.kitOne K (.type n) (.ref (He.ga K x)) = some false)) &&
  (cl.all fun x => PySem.W.selfFirst K (He.ga K x))
def es : List E → Es
  | [] => .nil
  | e :: r => .cons e (es r)
def ss : List S → Ss
  | [] => .nil
  | s :: r => .cons s (ss r)
end Lh
/-! printed by gen.py: the text in the little language -/
namespace Lt
open Lh PySem PySem.Spec PyProof.Rows
def top (i : Nat) : Stmt := PySem.Challenge.pw_lanternhouse_k85_whole_dead_runs.main.body.getD i (.Pass ⟨0, 0, 0, 0⟩)
def sub (i k : Nat) : Stmt := (match top i with | .ClassDef (body := b) .. => b | _ => []).getD k (.Pass ⟨0, 0, 0, 0⟩)
def j_is_index : Nat := 0
def j__are_trades : Nat := 1
def j__is_connected : Nat := 2
def j_Standing_init : Nat := 3
def j__is_trade : Nat := 4
def j_lights_at : Nat := 5
def j_need_trade : Nat := 6
def j_need_no_masters : Nat := 7
def j_Run_init : Nat := 8
def j__step : Nat := 9
def j_rooms_of : Nat := 10
def j_walk_from : Nat := 11
def j__law_cell : Nat := 12
def j__law_row : Nat := 13
def j__law_odd_cycle : Nat := 14
def j__law_any_cycle : Nat := 15
def j__law_is_integer : Nat := 16
def j__law_deed : Nat := 17
def j__law_lights : Nat := 18
def j__law_spread : Nat := 19
def j__law_ends : Nat := 20
def j__law_marks : Nat := 21
def j__law_fewer : Nat := 22
def j__is_door : Nat := 23
def j_fits : Nat := 24
def j_need_doors : Nat := 25
def j_need_hands : Nat := 26
def j_need_two_trades : Nat := 27
def j__may_pass : Nat := 28
def j_after_deed : Nat := 29
def j_spread_over : Nat := 30
def j__law_house : Nat := 31
def j__law_integers : Nat := 32
def j__law_is_standing : Nat := 33
def j__law_possible : Nat := 34
def j__law_far : Nat := 35
def j__law_two_parts : Nat := 36
def j__law_placed : Nat := 37
def j__law_are_deeds : Nat := 38
def j__law_is_house : Nat := 39
def j__law_reached : Nat := 40
def j_House_init : Nat := 41
def j__need_fits : Nat := 42
def j_need_fits : Nat := 43
def j_is_possible : Nat := 44
def j_shared_rooms : Nat := 45
def j__law_scene : Nat := 46
def j__letter_of : Nat := 47
def j_do : Nat := 48
def j_possible_deeds : Nat := 49
def j_replay : Nat := 50
def j_spread_of : Nat := 51
def j_meeting_rooms : Nat := 52
def j_light_of : Nat := 53
def j_is_live : Nat := 54
def j__law_moment : Nat := 55
def j__law_lit : Nat := 56
def j_law : Nat := 57
def b_is_index : Ss := ss [.ret (.chain .le .lt (.cint 0) (.var 0) (.var 1))]
def b__are_trades : Ss := ss [.iff (.or2 (.v (.cmp .lt (.bi1 .len (.var 0)) (.cint 2))) (.or1 (.v (.cmp .lt (.bi1 .lenset (.var 0)) (.bi1 .len (.var 0)))))) (ss [.ret (.cbl false)]) (ss []), .ret (.bi1 .all (.comp (.val (.var 0)) (.nm 1) .none (.cmp .inn (.var 1) (.gl 0 (.str [65, 66, 67, 68, 69, 70, 71, 72, 73, 74, 75, 76, 77, 78, 79, 80, 81, 82, 83, 84, 85, 86, 87, 88, 89, 90]))) [1]))]
def b__is_connected : Ss := ss [.asg 2 (.lrng (.var 0)), .frz 2, .for_ (.tp [.nm 3, .nm 4, .nm 5]) (.val (.var 1)) (ss [.tgt (.tp [.nm 6, .nm 7]) (.tup (es [.ix (.var 2) (.var 3), .ix (.var 2) (.var 4)])), .asg 2 (.comp (.val (.var 2)) (.nm 8) .none (.ife (.v (.cmp .eq (.var 8) (.var 6))) (.var 7) (.var 8)) [8]), .frz 2]), .ret (.cmp .eq (.bi1 .lenset (.var 2)) (.cint 1))]
def b_Standing_init : Ss := ss [.setfd 0 1 0 (.bi1 .tuple (.comp (.val (.var 1)) (.nm 3) .none (.bi1 .tuple (.var 3)) [3])), .setfd 0 1 1 (.bi1 .tuple (.var 2))]
def b__is_trade : Ss := ss [.ret (.or2 (.cmp .eq (.var 1) (.cstr [42])) (.or1 (.and2 (.cmp .eq (.bi1 .len (.var 1)) (.cint 1)) (.and1 (.cmp .inn (.var 1) (.fld (.var 0) 2))))))]
def b_lights_at : Ss := ss [.ret (.comp (.zip (.fld (.var 1) 1) (.fld (.var 0) 3)) (.tp [.nm 3, .tp [.nm 4, .nm 4, .nm 5]]) .none (.ix (.var 5) (.bin .mod (.bin .sub (.var 3) (.var 2)) (.bi1 .len (.var 5)))) [3, 4, 5])]
def b_need_trade : Ss := ss [.iff (.or2 (.v (.cmp .ne (.bi1 .len (.var 1)) (.cint 1))) (.or1 (.v (.cmp .notin (.var 1) (.fld (.var 0) 2))))) (ss [.raise]) (ss [])]
def b_need_no_masters : Ss := ss [.for_ (.nm 1) (.val (.fld (.var 0) 0)) (ss [.iff (.v (.cmp .eq (.ix (.var 1) (.cint 0)) (.cstr [42]))) (ss [.raise]) (ss [])])]
def b_Run_init : Ss := ss [.setfd 0 2 5 (.bi1 .tuple (.comp (.val (.var 1)) (.nm 2) .none (.bi1 .tuple (.var 2)) [2]))]
def b__step : Ss := ss [.tgt (.tp [.nm 5, .nm 6]) (.ix (.var 1) (.var 3)), .tgt (.tp [.nm 7, .nm 8, .nm 9]) (.ix (.fld (.var 0) 3) (.var 4)), .setix (.nm 1) (.var 3) (.tup (es [.var 5, .bin .sub (.bin .add (.var 7) (.var 8)) (.var 6)])), .setix (.nm 2) (.var 4) (.bin .mod (.bin .add (.ix (.var 2) (.var 4)) (.cint 1)) (.bi1 .len (.var 9)))]
def b_rooms_of : Ss := ss [.ret (.comp (.val (.fld (.var 0) 0)) (.tp [.nm 2, .nm 3]) (.some (.v (.cmp .eq (.var 2) (.var 1)))) (.var 3) [2, 3])]
def b_walk_from : Ss := ss [.asg 4 (.comp (.rng1 (.fld (.var 0) 4)) (.nm 6) .none (.cmp .inn (.var 6) (.var 1)) [6]), .asg 5 (.cbl true), .whil (.v (.var 5)) (ss [.asg 5 (.cbl false), .for_ (.tp [.nm 7, .tp [.nm 8, .nm 9, .nm 10]]) (.zip (.var 2) (.fld (.var 0) 3)) (ss [.iff (.and2 (.v (.cmp .eq (.var 7) (.var 3))) (.and1 (.v (.cmp .ne (.ix (.var 4) (.var 8)) (.ix (.var 4) (.var 9)))))) (ss [.setix2 (.nm 4) (.var 8) (.nm 4) (.var 9) (.cbl true), .asg 5 (.cbl true)]) (ss [])])]), .frz 4, .ret (.comp (.rng1 (.fld (.var 0) 4)) (.nm 6) (.some (.v (.ix (.var 4) (.var 6)))) (.var 6) [6])]
def b__law_cell : Ss := ss [.iff (.v (.cmp .lt (.var 1) (.bi1 .len (.var 0)))) (ss [.ret (.ix (.var 0) (.var 1))]) (ss []), .ret (.cint 0)]
def b__law_row : Ss := ss [.asg 2 (.lst (es [])), .asg 3 (.bin .sub (.var 0) (.bin .pow (.cint 10) (.cint 18))), .for_ (.nm 4) (.rng1 (.bi1 .len (.var 1))) (ss [.iff (.v (.cmp .ge (.var 0) (.bin .pow (.cint 10) (.cint 18)))) (ss [.mu .append (.nm 2) (es [.bin .mod (.bi1 .int (.var 3)) (.ix (.var 1) (.var 4))]), .asg 3 (.bin .fdiv (.var 3) (.ix (.var 1) (.var 4)))]) (ss [.asg 5 (.bin .mod (.bi1 .int (.bin .add (.bin .add (.var 0) (.bin .mul (.cint 7919) (.var 4))) (.cint 13))) (.cint 2147483647)), .asg 5 (.bin .mod (.bi1 .int (.bin .mul (.var 5) (.bin .add (.var 5) (.cint 48271)))) (.cint 2147483629)), .asg 5 (.bin .mod (.bi1 .int (.bin .add (.bin .mul (.var 5) (.bin .add (.var 5) (.cint 69621))) (.bin .mul (.cint 31) (.var 4)))) (.cint 2147483647)), .mu .append (.nm 2) (es [.bin .mod (.bi1 .int (.bin .fdiv (.var 5) (.cint 9))) (.ix (.var 1) (.var 4))])])]), .retO 2]
def b__law_odd_cycle : Ss := ss [.asg 3 (.bin .add (.cint 2) (.bin .mul (.cint 2) (.bi1 .int (.bin .mod (.ix (.var 0) (.var 1)) (.bin .fdiv (.var 2) (.cint 2)))))), .asg 4 (.cstr []), .for_ (.nm 5) (.rng1 (.bin .sub (.var 3) (.cint 2))) (ss [.asg 4 (.bin .add (.var 4) (.ix (.cstr [82, 66]) (.bin .mod (.ix (.var 0) (.bin .add (.bin .add (.var 1) (.cint 1)) (.var 5))) (.cint 2))))]), .asg 6 (.lst (es [.cstr [82, 66], .cstr [66, 82]])), .frz 6, .iff (.v (.cmp .eq (.bin .mod (.m1 .scount (.var 4) (.cstr [82])) (.cint 2)) (.cint 1))) (ss [.asg 6 (.lst (es [.cstr [82, 82], .cstr [66, 66]])), .frz 6]) (ss []), .ret (.bin .add (.var 4) (.ix (.var 6) (.bin .mod (.ix (.var 0) (.bin .sub (.bin .add (.var 1) (.var 2)) (.cint 1))) (.cint 2))))]
def b__law_any_cycle : Ss := ss [.asg 3 (.bin .add (.cint 2) (.bi1 .int (.bin .mod (.ix (.var 0) (.var 1)) (.bin .sub (.var 2) (.cint 1))))), .asg 4 (.cstr []), .for_ (.nm 5) (.rng1 (.bin .sub (.var 3) (.cint 1))) (ss [.asg 4 (.bin .add (.var 4) (.ix (.cstr [82, 66]) (.bin .mod (.ix (.var 0) (.bin .add (.bin .add (.var 1) (.cint 1)) (.var 5))) (.cint 2))))]), .iff (.v (.cmp .eq (.m1 .scount (.var 4) (.cstr [82])) (.cint 0))) (ss [.ret (.bin .add (.var 4) (.cstr [82]))]) (ss []), .iff (.v (.cmp .eq (.m1 .scount (.var 4) (.cstr [66])) (.cint 0))) (ss [.ret (.bin .add (.var 4) (.cstr [66]))]) (ss []), .ret (.bin .add (.var 4) (.ix (.cstr [82, 66]) (.bin .mod (.ix (.var 0) (.bin .add (.var 1) (.var 2))) (.cint 2))))]
def b__law_is_integer : Ss := ss [.ret (.and2 (.isi (.var 0) .int) (.and1 (.nott (.isi (.var 0) .bool))))]
def b__law_deed : Ss := ss [.iff (.or2 (.v (.cmp .lt (.var 3) (.cint 0))) (.or2 (.v (.cmp .ge (.var 3) (.bi1 .len (.var 1)))) (.or2 (.v (.cmp .lt (.var 4) (.cint 0))) (.or1 (.v (.cmp .ge (.var 4) (.bi1 .len (.var 0)))))))) (ss [.ret (.cnon)]) (ss []), .asg 5 (.ix (.ix (.var 1) (.var 3)) (.cint 0)), .asg 6 (.ix (.ix (.var 1) (.var 3)) (.cint 1)), .iff (.and2 (.v (.cmp .ne (.var 6) (.ix (.ix (.var 0) (.var 4)) (.cint 0)))) (.and1 (.v (.cmp .ne (.var 6) (.ix (.ix (.var 0) (.var 4)) (.cint 1)))))) (ss [.ret (.cnon)]) (ss []), .iff (.and2 (.v (.cmp .ne (.var 5) (.cstr [42]))) (.and1 (.v (.cmp .ne (.var 5) (.ix (.ix (.ix (.var 0) (.var 4)) (.cint 2)) (.ix (.var 2) (.var 4))))))) (ss [.ret (.cnon)]) (ss []), .asg 7 (.bi1 .list (.var 1)), .setix (.nm 7) (.var 3) (.tup (es [.var 5, .bin .sub (.bin .add (.ix (.ix (.var 0) (.var 4)) (.cint 0)) (.ix (.ix (.var 0) (.var 4)) (.cint 1))) (.var 6)])), .frz 7, .asg 8 (.bi1 .list (.var 2)), .setix (.nm 8) (.var 4) (.bin .mod (.bi1 .int (.bin .add (.ix (.var 2) (.var 4)) (.cint 1))) (.bi1 .len (.ix (.ix (.var 0) (.var 4)) (.cint 2)))), .frz 8, .frz 7, .ret (.tup (es [.var 7, .var 8]))]
def b__law_lights : Ss := ss [.ret (.comp (.rng1 (.bi1 .len (.var 0))) (.nm 3) .none (.ix (.ix (.ix (.var 0) (.var 3)) (.cint 2)) (.bin .mod (.bi1 .int (.bin .sub (.ix (.var 1) (.var 3)) (.var 2))) (.bi1 .len (.ix (.ix (.var 0) (.var 3)) (.cint 2))))) [3])]
def b__law_spread : Ss := ss [.asg 5 (.bin .mul (.lst (es [.cbl false])) (.var 0)), .for_ (.nm 6) (.val (.var 2)) (ss [.iff (.v (.cmp .eq (.ix (.var 6) (.cint 0)) (.var 4))) (ss [.setix (.nm 5) (.ix (.var 6) (.cint 1)) (.cbl true)]) (ss [])]), .for_ (.nm 7) (.rng1 (.var 0)) (ss [.for_ (.nm 8) (.rng1 (.bi1 .len (.var 1))) (ss [.iff (.and2 (.v (.cmp .eq (.ix (.var 3) (.var 8)) (.var 4))) (.and1 (.or2 (.v (.ix (.var 5) (.ix (.ix (.var 1) (.var 8)) (.cint 0)))) (.or1 (.v (.ix (.var 5) (.ix (.ix (.var 1) (.var 8)) (.cint 1)))))))) (ss [.setix (.nm 5) (.ix (.ix (.var 1) (.var 8)) (.cint 0)) (.cbl true), .setix (.nm 5) (.ix (.ix (.var 1) (.var 8)) (.cint 1)) (.cbl true)]) (ss [])])]), .frz 5, .ret (.var 5)]
def b__law_ends : Ss := ss [.iff (.v (.cmp .lt (.var 0) (.var 1))) (ss [.ret (.tup (es [.var 0, .lrng (.var 0)]))]) (ss []), .iff (.v (.cmp .eq (.var 0) (.var 1))) (ss [.ret (.tup (es [.var 2, .lrng2 (.var 1) (.var 2)]))]) (ss []), .iff (.v (.cmp .lt (.var 0) (.var 2))) (ss [.ret (.tup (es [.var 0, .lrng2 (.var 1) (.var 0)]))]) (ss []), .iff (.v (.cmp .eq (.var 0) (.var 2))) (ss [.ret (.tup (es [.var 2, .lrng (.var 1)]))]) (ss []), .iff (.v (.cmp .lt (.var 0) (.var 3))) (ss [.ret (.tup (es [.var 0, .lrng (.var 0)]))]) (ss []), .asg 6 (.bin .mod (.bi1 .int (.var 5)) (.var 3)), .asg 7 (.comp (.rng1 (.var 3)) (.nm 8) (.some (.or2 (.v (.cmp .eq (.ix (.var 4) (.var 8)) (.ix (.var 4) (.var 6)))) (.or1 (.v (.cmp .inn (.cint 1) (.lst (es [.ix (.var 4) (.var 8), .ix (.var 4) (.var 6)]))))))) (.var 8) [8]), .frz 7, .ret (.tup (es [.var 6, .comp (.val (.var 7)) (.nm 8) (.some (.v (.cmp .ne (.var 8) (.var 6)))) (.var 8) [8]]))]
def b__law_marks : Ss := ss [.asg 4 (.lst (es [])), .for_ (.nm 5) (.rng1 (.bi1 .len (.var 2))) (ss [.asg 6 (.ix (.ix (.var 2) (.var 5)) (.cint 2)), .asg 7 (.lst (es [.ix (.var 3) (.ix (.ix (.var 2) (.var 5)) (.cint 0)), .ix (.var 3) (.ix (.ix (.var 2) (.var 5)) (.cint 1))])), .frz 7, .asg 8 (.ix (.cstr [82, 82, 66]) (.ix (.var 7) (.cint 0))), .asg 9 (.lrng (.bi1 .len (.var 6))), .frz 9, .iff (.and2 (.v (.cmp .inn (.cint 1) (.var 7))) (.and1 (.v (.cmp .ne (.var 7) (.lst (es [.cint 1, .cint 1])))))) (ss [.asg 9 (.comp (.val (.var 9)) (.nm 10) (.some (.v (.cmp .ne (.ix (.var 6) (.var 10)) (.ix (.cstr [82, 82, 66]) (.bin .sub (.bin .add (.ix (.var 7) (.cint 0)) (.ix (.var 7) (.cint 1))) (.cint 1)))))) (.var 10) [10]), .frz 9]) (ss []), .iff (.and2 (.v (.cmp .notin (.cint 1) (.var 7))) (.and1 (.v (.cmp .gt (.ix (.var 0) (.cint 0)) (.cint 0))))) (ss [.asg 9 (.comp (.val (.var 9)) (.nm 10) (.some (.v (.cmp .eq (.ix (.var 6) (.var 10)) (.var 8)))) (.var 10) [10]), .frz 9]) (ss []), .iff (.and2 (.v (.cmp .notin (.cint 1) (.var 7))) (.and1 (.v (.cmp .gt (.ix (.var 0) (.cint 0)) (.cint 2))))) (ss [.asg 9 (.comp (.val (.var 9)) (.nm 10) (.some (.v (.cmp .ne (.ix (.var 6) (.bin .sub (.var 10) (.cint 1))) (.var 8)))) (.var 10) [10]), .frz 9]) (ss []), .mu .append (.nm 4) (es [.ix (.var 9) (.bin .mod (.bi1 .int (.ix (.var 0) (.bin .add (.var 1) (.var 5)))) (.bi1 .len (.var 9)))])]), .frz 4, .ret (.var 4)]
def b__law_fewer : Ss := ss [.iff (.v (.cmp .ne (.ix (.var 1) (.bin .sub (.cint 1) (.var 2))) (.ix (.var 0) (.bin .sub (.cint 1) (.var 2))))) (ss [.ret (.cbl false)]) (ss []), .ret (.cmp .eq (.comp (.val (.ix (.var 1) (.var 2))) (.nm 3) (.some (.v (.cmp .notin (.var 3) (.ix (.var 0) (.var 2))))) (.var 3) [3]) (.lst (es [])))]
def b__is_door : Ss := ss [.tgt (.tp [.nm 3, .nm 4, .nm 5]) (.var 2), .iff (.or2 (.not (.v (.call j_is_index [.va, .va] (es [.var 3, .var 0])))) (.or2 (.not (.v (.call j_is_index [.va, .va] (es [.var 4, .var 0])))) (.or1 (.v (.cmp .eq (.var 3) (.var 4)))))) (ss [.ret (.cbl false)]) (ss []), .ret (.and2 (.bi1 .all (.comp (.val (.var 5)) (.nm 6) .none (.cmp .inn (.var 6) (.var 1)) [6])) (.and1 (.bi1 .all (.comp (.val (.var 1)) (.nm 6) .none (.cmp .inn (.var 6) (.var 5)) [6]))))]
def b_fits : Ss := ss [.iff (.v (.cmp .ne (.bi1 .len (.fld (.var 1) 1)) (.bi1 .len (.fld (.var 0) 3)))) (ss [.ret (.cbl false)]) (ss []), .for_ (.tp [.nm 2, .tp [.nm 5, .nm 5, .nm 6]]) (.zip (.fld (.var 1) 1) (.fld (.var 0) 3)) (ss [.iff (.not (.v (.call j_is_index [.va, .va] (es [.var 2, .bi1 .len (.var 6)])))) (ss [.ret (.cbl false)]) (ss [])]), .for_ (.tp [.nm 3, .nm 4]) (.val (.fld (.var 1) 0)) (ss [.iff (.or2 (.not (.v (.call j__is_trade [.va, .va] (es [.var 0, .var 3])))) (.or1 (.not (.v (.call j_is_index [.va, .va] (es [.var 4, .fld (.var 0) 4])))))) (ss [.ret (.cbl false)]) (ss [])]), .ret (.cbl true)]
def b_need_doors : Ss := ss [.for_ (.nm 2) (.val (.var 1)) (ss [.iff (.not (.v (.call j_is_index [.va, .va] (es [.var 2, .bi1 .len (.fld (.var 0) 3)])))) (ss [.raise]) (ss [])])]
def b_need_hands : Ss := ss [.for_ (.nm 2) (.val (.var 1)) (ss [.iff (.not (.v (.call j_is_index [.va, .va] (es [.var 2, .bi1 .len (.fld (.var 0) 0)])))) (ss [.raise]) (ss [])])]
def b_need_two_trades : Ss := ss [.iff (.v (.cmp .ne (.fld (.var 0) 2) (.cstr [82, 66]))) (ss [.raise]) (ss []), .ex (.call j_need_no_masters [.va] (es [.var 1]))]
def b__may_pass : Ss := ss [.iff (.or2 (.not (.v (.call j_is_index [.va, .va] (es [.var 3, .bi1 .len (.var 1)])))) (.or1 (.not (.v (.call j_is_index [.va, .va] (es [.var 4, .bi1 .len (.var 2)])))))) (ss [.ret (.cbl false)]) (ss []), .tgt (.tp [.nm 5, .nm 6]) (.ix (.var 1) (.var 3)), .tgt (.tp [.nm 7, .nm 8, .nm 9]) (.ix (.fld (.var 0) 3) (.var 4)), .ret (.and2 (.cmp .inn (.var 6) (.tup (es [.var 7, .var 8]))) (.and1 (.cmp .inn (.var 5) (.tup (es [.cstr [42], .ix (.var 9) (.ix (.var 2) (.var 4))])))))]
def b_after_deed : Ss := ss [.par 4 5 (.bi1 .list (.fld (.var 1) 0)) (.bi1 .list (.fld (.var 1) 1)), .call none j__step [.va, .io, .io, .va, .va] (es [.var 0, .var 4, .var 5, .var 2, .var 3]), .frz 4, .frz 5, .ret (.make 1 j_Standing_init [.bo, .bo] (es [.var 4, .var 5]))]
def b_spread_over : Ss := ss [.ret (.call j_walk_from [.va, .va, .va, .va] (es [.var 0, .call j_rooms_of [.va, .va] (es [.var 1, .var 3]), .var 2, .var 3]))]
def b__law_house : Ss := ss [.asg 5 (.bin .add (.lst (es [.var 1, .bin .add (.var 2) (.cint 1)])) (.comp (.rng1 (.var 1)) (.nm 7) .none (.bin .add (.var 7) (.cint 1)) [7])), .frz 5, .asg 6 (.bin .add (.bin .add (.cint 4) (.var 3)) (.cint 1)), .for_ (.nm 7) (.rng1 (.bin .add (.bin .sub (.var 1) (.cint 1)) (.var 2))) (ss [.asg 5 (.bin .add (.bin .add (.var 5) (.lst (es [.var 1, .var 1, .cint 2, .bin .add (.var 1) (.var 2), .cint 60]))) (.bin .mul (.lst (es [.cint 2])) (.var 3))), .frz 5]), .asg 8 (.callO j__law_row [.va, .va] (es [.var 0, .var 5])), .frz 8, .asg 9 (.bin .add (.cint 1) (.ix (.var 8) (.cint 0))), .asg 10 (.bin .add (.bin .sub (.var 9) (.cint 1)) (.ix (.var 8) (.cint 1))), .iff (.v (.cmp .eq (.var 9) (.cint 1))) (ss [.asg 10 (.cint 0)]) (ss []), .asg 11 (.lst (es [])), .for_ (.nm 7) (.rng1 (.var 9)) (ss [.mu .insert (.nm 11) (es [.ix (.var 8) (.bin .add (.cint 2) (.var 7)), .var 7])]), .frz 11, .asg 12 (.lst (es [])), .for_ (.nm 7) (.rng1 (.var 10)) (ss [.asg 13 (.bin .add (.bin .add (.cint 2) (.var 1)) (.bin .mul (.var 7) (.var 6))), .asg 14 (.bin .add (.var 7) (.cint 1)), .asg 15 (.bi1 .int (.bin .mod (.ix (.var 8) (.var 13)) (.var 14))), .iff (.v (.cmp .ge (.var 7) (.bin .sub (.var 9) (.cint 1)))) (ss [.asg 15 (.bi1 .int (.bin .mod (.ix (.var 8) (.var 13)) (.var 9))), .asg 14 (.bin .mod (.bi1 .int (.bin .add (.bin .add (.var 15) (.cint 1)) (.bin .mod (.ix (.var 8) (.bin .add (.var 13) (.cint 1))) (.bin .sub (.var 9) (.cint 1))))) (.var 9))]) (ss []), .iff (.v (.cmp .eq (.ix (.var 8) (.bin .add (.var 13) (.cint 2))) (.cint 1))) (ss [.par 15 14 (.var 14) (.var 15)]) (ss []), .asg 16 (.call j__law_any_cycle [.va, .va, .va] (es [.var 8, .bin .add (.var 13) (.cint 4), .var 3])), .iff (.v (.var 4)) (ss [.asg 16 (.call j__law_odd_cycle [.va, .va, .va] (es [.var 8, .bin .add (.var 13) (.cint 4), .var 3]))]) (ss []), .mu .insert (.nm 12) (es [.bi1 .int (.bin .mod (.ix (.var 8) (.bin .add (.var 13) (.cint 3))) (.bin .add (.bi1 .len (.var 12)) (.cint 1))), .tup (es [.ix (.var 11) (.var 15), .ix (.var 11) (.var 14), .var 16])])]), .frz 12, .ret (.tup (es [.var 9, .var 12]))]
def b__law_integers : Ss := ss [.iff (.not (.v (.isi (.var 0) .list))) (ss [.ret (.cbl false)]) (ss []), .ret (.bi1 .all (.comp (.val (.var 0)) (.nm 1) .none (.call j__law_is_integer [.va] (es [.var 1])) [1]))]
def b__law_is_standing : Ss := ss [.iff (.not (.v (.isi (.var 0) (.cls 1)))) (ss [.ret (.cbl false)]) (ss []), .iff (.or2 (.not (.v (.isi (.fld (.var 0) 0) .tuple))) (.or1 (.not (.v (.isi (.fld (.var 0) 1) .tuple))))) (ss [.ret (.cbl false)]) (ss []), .iff (.or2 (.v (.cmp .ne (.bi1 .len (.fld (.var 0) 0)) (.bi1 .len (.var 1)))) (.or1 (.v (.cmp .ne (.bi1 .len (.fld (.var 0) 1)) (.bi1 .len (.var 2)))))) (ss [.ret (.cbl false)]) (ss []), .for_ (.nm 3) (.rng1 (.bi1 .len (.var 1))) (ss [.asg 4 (.ix (.fld (.var 0) 0) (.var 3)), .iff (.or2 (.not (.v (.isi (.var 4) .tuple))) (.or1 (.v (.cmp .ne (.bi1 .len (.var 4)) (.cint 2))))) (ss [.ret (.cbl false)]) (ss []), .iff (.or2 (.not (.v (.isi (.ix (.var 4) (.cint 0)) .str))) (.or1 (.not (.v (.call j__law_is_integer [.va] (es [.ix (.var 4) (.cint 1)])))))) (ss [.ret (.cbl false)]) (ss []), .iff (.or2 (.v (.cmp .ne (.ix (.var 4) (.cint 0)) (.ix (.ix (.var 1) (.var 3)) (.cint 0)))) (.or1 (.v (.cmp .ne (.ix (.var 4) (.cint 1)) (.ix (.ix (.var 1) (.var 3)) (.cint 1)))))) (ss [.ret (.cbl false)]) (ss [])]), .for_ (.nm 3) (.rng1 (.bi1 .len (.var 2))) (ss [.iff (.or2 (.not (.v (.call j__law_is_integer [.va] (es [.ix (.fld (.var 0) 1) (.var 3)])))) (.or1 (.v (.cmp .ne (.ix (.fld (.var 0) 1) (.var 3)) (.ix (.var 2) (.var 3)))))) (ss [.ret (.cbl false)]) (ss [])]), .ret (.cbl true)]
def b__law_possible : Ss := ss [.asg 3 (.lst (es [])), .for_ (.nm 4) (.rng1 (.bi1 .len (.var 1))) (ss [.for_ (.nm 5) (.rng1 (.bi1 .len (.var 0))) (ss [.iff (.v (.cmp .isnot (.call j__law_deed [.va, .va, .va, .va, .va] (es [.var 0, .var 1, .var 2, .var 4, .var 5])) (.cnon))) (ss [.mu .append (.nm 3) (es [.tup (es [.var 4, .var 5])])]) (ss [])])]), .frz 3, .ret (.var 3)]
def b__law_far : Ss := ss [.iff (.v (.cmp .lt (.var 1) (.bi1 .len (.var 0)))) (ss [.ret (.ix (.var 0) (.var 1))]) (ss []), .ret (.bin .add (.bin .mod (.bi1 .int (.call j__law_cell [.va, .va] (es [.var 0, .cint 0]))) (.cint 1000003)) (.bin .mul (.cint 104729) (.bin .add (.var 1) (.cint 1))))]
def b__law_two_parts : Ss := ss [.asg 3 (.bin .add (.cint 5) (.var 2)), .asg 4 (.bin .add (.lst (es [.cint 5, .cint 5, .cint 2, .bin .add (.var 1) (.cint 1)])) (.bin .mul (.lst (es [.cint 60])) (.cint 8))), .frz 4, .for_ (.nm 5) (.rng1 (.bin .add (.cint 7) (.var 1))) (ss [.asg 4 (.bin .add (.bin .add (.var 4) (.lst (es [.cint 60, .cint 60, .cint 2, .cint 60, .cint 60]))) (.bin .mul (.lst (es [.cint 2])) (.var 2))), .frz 4]), .asg 6 (.callO j__law_row [.va, .va] (es [.var 0, .var 4])), .frz 6, .asg 7 (.bin .add (.cint 1) (.bin .fdiv (.bi1 .int (.bin .add (.ix (.var 6) (.cint 0)) (.cint 1))) (.cint 2))), .asg 8 (.bin .add (.bin .add (.var 7) (.cint 1)) (.bin .fdiv (.bi1 .int (.bin .add (.ix (.var 6) (.cint 1)) (.cint 1))) (.cint 2))), .asg 9 (.bin .add (.bin .add (.var 8) (.cint 1)) (.ix (.var 6) (.cint 2))), .asg 10 (.bin .add (.bin .add (.bin .mul (.lst (es [.cint 0])) (.var 7)) (.bin .mul (.lst (es [.cint 2])) (.bin .sub (.var 8) (.var 7)))) (.bin .mul (.lst (es [.cint 1])) (.bin .sub (.var 9) (.var 8)))), .frz 10, .asg 11 (.lst (es [])), .for_ (.nm 5) (.rng1 (.var 9)) (ss [.mu .insert (.nm 11) (es [.bin .mod (.bi1 .int (.ix (.var 6) (.bin .add (.cint 4) (.var 5)))) (.bin .add (.var 5) (.cint 1)), .var 5])]), .frz 11, .asg 12 (.lst (es [])), .for_ (.nm 5) (.rng2 (.cint 1) (.bin .add (.var 9) (.ix (.var 6) (.cint 3)))) (ss [.asg 14 (.bin .add (.cint 12) (.bin .mul (.bin .sub (.var 5) (.cint 1)) (.var 3))), .tgt (.tp [.nm 17, .nm 18]) (.call j__law_ends [.va, .va, .va, .va, .va, .va] (es [.var 5, .var 7, .var 8, .var 9, .var 10, .ix (.var 6) (.bin .add (.var 14) (.cint 1))])), .asg 15 (.lst (es [.ix (.var 11) (.var 17), .ix (.var 11) (.ix (.var 18) (.bin .mod (.bi1 .int (.ix (.var 6) (.var 14))) (.bi1 .len (.var 18))))])), .frz 15, .asg 16 (.call j__law_any_cycle [.va, .va, .va] (es [.var 6, .bin .add (.var 14) (.cint 4), .var 2])), .mu .insert (.nm 12) (es [.bin .mod (.bi1 .int (.ix (.var 6) (.bin .add (.var 14) (.cint 3)))) (.bin .add (.bi1 .len (.var 12)) (.cint 1)), .tup (es [.ix (.var 15) (.ix (.var 6) (.bin .add (.var 14) (.cint 2))), .ix (.var 15) (.bin .sub (.cint 1) (.ix (.var 6) (.bin .add (.var 14) (.cint 2)))), .var 16])])]), .frz 12, .asg 13 (.bin .mul (.lst (es [.cint 1])) (.var 9)), .for_ (.nm 5) (.rng1 (.var 9)) (ss [.setix (.nm 13) (.ix (.var 11) (.var 5)) (.ix (.var 10) (.var 5))]), .frz 13, .frz 12, .ret (.tup (es [.var 9, .var 12, .var 13]))]
def b__law_placed : Ss := ss [.asg 6 (.callO j__law_row [.va, .va] (es [.var 0, .bin .add (.bin .add (.lst (es [.cint 6, .bin .add (.bin .sub (.var 5) (.var 4)) (.cint 1), .cint 60])) (.bin .mul (.lst (es [.cint 2, .cint 60])) (.var 5))) (.bin .mul (.lst (es [.cint 60])) (.bi1 .len (.var 2)))])), .frz 6, .asg 7 (.comp (.rng1 (.bin .add (.var 4) (.ix (.var 6) (.cint 1)))) (.nm 9) .none (.ix (.var 6) (.bin .add (.cint 3) (.bin .mul (.cint 2) (.var 9)))) [9]), .iff (.and2 (.v (.cmp .gt (.var 4) (.cint 0))) (.and1 (.v (.cmp .eq (.m1 .lcount (.var 7) (.ix (.var 7) (.cint 0))) (.bi1 .len (.var 7)))))) (ss [.asg 10 (.bin .mod (.bi1 .int (.ix (.var 6) (.cint 2))) (.bi1 .len (.var 7))), .setix (.nm 7) (.var 10) (.bin .sub (.cint 1) (.ix (.var 7) (.var 10)))]) (ss []), .frz 7, .asg 8 (.lst (es [])), .for_ (.nm 9) (.rng1 (.bi1 .len (.var 7))) (ss [.asg 11 (.comp (.rng1 (.var 1)) (.nm 12) (.some (.v (.cmp .eq (.ix (.var 3) (.var 12)) (.bin .mul (.cint 2) (.ix (.var 7) (.var 9)))))) (.var 12) [12]), .frz 11, .iff (.v (.cmp .eq (.var 11) (.lst (es [])))) (ss [.asg 11 (.comp (.rng1 (.var 1)) (.nm 12) (.some (.v (.cmp .ne (.ix (.var 3) (.var 12)) (.cint 1)))) (.var 12) [12]), .frz 11]) (ss []), .iff (.v (.cmp .ne (.var 11) (.lst (es [])))) (ss [.asg 12 (.ix (.var 11) (.bin .mod (.bi1 .int (.ix (.var 6) (.bin .add (.cint 4) (.bin .mul (.cint 2) (.var 9))))) (.bi1 .len (.var 11)))), .mu .append (.nm 8) (es [.tup (es [.ix (.cstr [82, 82, 66]) (.ix (.var 3) (.var 12)), .var 12])])]) (ss [])]), .frz 8, .ret (.tup (es [.var 8, .call j__law_marks [.va, .va, .va, .va] (es [.var 6, .bin .add (.cint 3) (.bin .mul (.cint 2) (.var 5)), .var 2, .var 3])]))]
def b__law_are_deeds : Ss := ss [.iff (.not (.v (.isi (.var 0) .list))) (ss [.ret (.cbl false)]) (ss []), .for_ (.nm 1) (.val (.var 0)) (ss [.iff (.or2 (.not (.v (.isi (.var 1) .tuple))) (.or1 (.v (.cmp .ne (.bi1 .len (.var 1)) (.cint 2))))) (ss [.ret (.cbl false)]) (ss []), .iff (.or2 (.not (.v (.call j__law_is_integer [.va] (es [.ix (.var 1) (.cint 0)])))) (.or1 (.not (.v (.call j__law_is_integer [.va] (es [.ix (.var 1) (.cint 1)])))))) (ss [.ret (.cbl false)]) (ss [])]), .ret (.cbl true)]
def b__law_is_house : Ss := ss [.iff (.or2 (.not (.v (.isi (.var 0) (.cls 0)))) (.or2 (.not (.v (.call j__law_is_integer [.va] (es [.fld (.var 0) 4])))) (.or1 (.not (.v (.isi (.fld (.var 0) 3) .tuple)))))) (ss [.ret (.cbl false)]) (ss []), .ret (.and2 (.cmp .eq (.fld (.var 0) 4) (.var 1)) (.and2 (.cmp .eq (.fld (.var 0) 3) (.bi1 .tuple (.var 2))) (.and1 (.cmp .eq (.fld (.var 0) 2) (.cstr [82, 66])))))]
def b__law_reached : Ss := ss [.asg 5 (.call j__law_spread [.va, .va, .va, .va, .va] (es [.var 0, .var 1, .var 2, .call j__law_lights [.va, .va, .va] (es [.var 1, .var 3, .cint 0]), .var 4])), .ret (.comp (.rng1 (.var 0)) (.nm 6) (.some (.v (.ix (.var 5) (.var 6)))) (.var 6) [6])]
def b_House_init : Ss := ss [.setfd 0 0 4 (.var 1), .setfd 0 0 3 (.bi1 .tuple (.comp (.val (.var 2)) (.tp [.nm 5, .nm 6, .nm 7]) .none (.tup (es [.var 5, .var 6, .var 7])) [5, 6, 7])), .setfd 0 0 2 (.var 3), .iff (.or2 (.v (.cmp .lt (.var 1) (.cint 1))) (.or1 (.not (.v (.call j__are_trades [.va] (es [.var 3])))))) (ss [.raise]) (ss []), .for_ (.nm 4) (.rng1 (.bi1 .len (.ofld 0 3))) (ss [.iff (.not (.v (.call j__is_door [.va, .va, .va] (es [.var 1, .var 3, .ix (.ofld 0 3) (.var 4)])))) (ss [.raise]) (ss [])]), .iff (.not (.v (.call j__is_connected [.va, .va] (es [.var 1, .ofld 0 3])))) (ss [.raise]) (ss [])]
def b__need_fits : Ss := ss [.iff (.not (.v (.call j_fits [.va, .va] (es [.var 0, .var 1])))) (ss [.raise]) (ss [])]
def b_need_fits : Ss := ss [.iff (.not (.v (.call j_fits [.va, .va] (es [.var 0, .var 1])))) (ss [.raise]) (ss [])]
def b_is_possible : Ss := ss [.ret (.call j__may_pass [.va, .bo, .bo, .va, .va] (es [.var 0, .fld (.var 1) 0, .fld (.var 1) 1, .var 2, .var 3]))]
def b_shared_rooms : Ss := ss [.asg 3 (.call j_lights_at [.va, .va, .va] (es [.var 0, .var 1, .var 2])), .asg 4 (.call j_spread_over [.va, .va, .va, .va] (es [.var 0, .var 1, .var 3, .cstr [66]])), .ret (.comp (.val (.call j_spread_over [.va, .va, .va, .va] (es [.var 0, .var 1, .var 3, .cstr [82]]))) (.nm 5) (.some (.v (.cmp .inn (.var 5) (.var 4)))) (.var 5) [5])]
def b__law_scene : Ss := ss [.iff (.not (.v (.var 1))) (ss [.tgt (.tp [.nm 5, .nm 6, .nm 3]) (.call j__law_two_parts [.va, .va, .va] (es [.call j__law_far [.va, .va] (es [.var 0, .cint 0]), .ix (.var 2) (.cint 1), .ix (.var 2) (.cint 2)])), .tgt (.tp [.nm 7, .nm 8]) (.call j__law_placed [.va, .va, .va, .va, .va, .va] (es [.call j__law_far [.va, .va] (es [.var 0, .cint 4]), .var 5, .var 6, .var 3, .cint 2, .cint 6])), .ret (.tup (es [.var 5, .var 6, .var 7, .var 8]))]) (ss []), .tgt (.tp [.nm 5, .nm 6]) (.call j__law_house [.va, .va, .va, .va, .va] (es [.call j__law_far [.va, .va] (es [.var 0, .cint 0]), .ix (.var 2) (.cint 0), .ix (.var 2) (.cint 1), .ix (.var 2) (.cint 2), .cbl false])), .asg 3 (.callO j__law_row [.va, .va] (es [.call j__law_far [.va, .va] (es [.var 0, .cint 2]), .bin .mul (.lst (es [.cint 3])) (.var 5)])), .for_ (.nm 4) (.val (.var 6)) (ss [.iff (.and2 (.v (.cmp .ne (.ix (.var 3) (.ix (.var 4) (.cint 0))) (.cint 1))) (.and1 (.v (.cmp .eq (.bin .add (.ix (.var 3) (.ix (.var 4) (.cint 0))) (.ix (.var 3) (.ix (.var 4) (.cint 1)))) (.cint 2))))) (ss [.setix (.nm 3) (.ix (.var 4) (.cint 1)) (.cint 1)]) (ss [])]), .frz 3, .tgt (.tp [.nm 7, .nm 8]) (.call j__law_placed [.va, .va, .va, .va, .va, .va] (es [.call j__law_far [.va, .va] (es [.var 0, .cint 4]), .var 5, .var 6, .var 3, .cint 0, .cint 6])), .ret (.tup (es [.var 5, .var 6, .var 7, .var 8]))]
def b__letter_of : Ss := ss [.ex (.call j__need_fits [.va, .va] (es [.var 0, .var 1])), .iff (.not (.v (.call j_is_index [.va, .va] (es [.var 2, .bi1 .len (.fld (.var 0) 3)])))) (ss [.raise]) (ss []), .ret (.ix (.call j_lights_at [.va, .va, .va] (es [.var 0, .var 1, .var 3])) (.var 2))]
def b_do : Ss := ss [.ex (.call j_need_fits [.va, .va] (es [.var 0, .var 1])), .ex (.call j_need_hands [.va, .va] (es [.var 1, .lst (es [.var 2])])), .ex (.call j_need_doors [.va, .va] (es [.var 0, .lst (es [.var 3])])), .iff (.not (.v (.call j_is_possible [.va, .va, .va, .va] (es [.var 0, .var 1, .var 2, .var 3])))) (ss [.raise]) (ss []), .ret (.call j_after_deed [.va, .va, .va, .va] (es [.var 0, .var 1, .var 2, .var 3]))]
def b_possible_deeds : Ss := ss [.ex (.call j_need_fits [.va, .va] (es [.var 0, .var 1])), .asg 2 (.rng1 (.bi1 .len (.fld (.var 1) 0))), .asg 3 (.rng1 (.bi1 .len (.fld (.var 0) 3))), .ret (.comp2 (.val (.var 2)) (.nm 4) .none (.val (.var 3)) (.nm 5) (.some (.v (.call j_is_possible [.va, .va, .va, .va] (es [.var 0, .var 1, .var 4, .var 5])))) (.tup (es [.var 4, .var 5])) [4, 5] [5])]
def b_replay : Ss := ss [.ex (.call j_need_fits [.va, .va] (es [.var 0, .var 1])), .par 3 4 (.bi1 .list (.fld (.var 1) 0)) (.bi1 .list (.fld (.var 1) 1)), .for_ (.tp [.nm 5, .tp [.nm 6, .nm 7]]) (.enum (.fld (.var 2) 5)) (ss [.iff (.not (.v (.call j__may_pass [.va, .bo, .bo, .va, .va] (es [.var 0, .var 3, .var 4, .var 6, .var 7])))) (ss [.raise]) (ss []), .call none j__step [.va, .io, .io, .va, .va] (es [.var 0, .var 3, .var 4, .var 6, .var 7])]), .frz 3, .frz 4, .ret (.make 1 j_Standing_init [.bo, .bo] (es [.var 3, .var 4]))]
def b_spread_of : Ss := ss [.ex (.call j_need_fits [.va, .va] (es [.var 0, .var 1])), .ex (.call j_need_trade [.va, .va] (es [.var 0, .var 2])), .ex (.call j_need_two_trades [.va, .va] (es [.var 0, .var 1])), .ret (.call j_spread_over [.va, .va, .va, .va] (es [.var 0, .var 1, .call j_lights_at [.va, .va, .va] (es [.var 0, .var 1, .cint 0]), .var 2]))]
def b_meeting_rooms : Ss := ss [.ex (.call j_need_fits [.va, .va] (es [.var 0, .var 1])), .ex (.call j_need_two_trades [.va, .va] (es [.var 0, .var 1])), .ret (.call j_shared_rooms [.va, .va, .va] (es [.var 0, .var 1, .cint 0]))]
def b_light_of : Ss := ss [.ret (.call j__letter_of [.va, .va, .va, .va] (es [.var 0, .var 1, .var 2, .cint 0]))]
def b_is_live : Ss := ss [.ret (.cmp .ne (.call j_meeting_rooms [.va, .va] (es [.var 0, .var 1])) (.lst (es [])))]
def b__law_moment : Ss := ss [.iff (.not (.v (.call j__law_is_standing [.va, .va, .va] (es [.var 1, .var 4, .var 5])))) (ss [.ret (.lst (es []))]) (ss []), .asg 6 (.call j_is_live [.va, .va] (es [.var 0, .var 1])), .iff (.or2 (.not (.v (.isi (.var 6) .bool))) (.or1 (.v (.var 6)))) (ss [.ret (.lst (es []))]) (ss []), .asg 7 (.comp (.val (.cstr [82, 66])) (.nm 10) .none (.call j__law_reached [.va, .va, .va, .va, .va] (es [.var 2, .var 3, .var 4, .var 5, .var 10])) [10]), .frz 7, .for_ (.nm 8) (.rng1 (.cint 2)) (ss [.asg 9 (.call j_spread_of [.va, .va, .va] (es [.var 0, .var 1, .ix (.cstr [82, 66]) (.var 8)])), .iff (.or2 (.not (.v (.call j__law_integers [.va] (es [.var 9])))) (.or1 (.v (.cmp .ne (.var 9) (.ix (.var 7) (.var 8)))))) (ss [.ret (.lst (es []))]) (ss [])]), .iff (.v (.cmp .ne (.comp (.val (.ix (.var 7) (.cint 0))) (.nm 11) (.some (.v (.cmp .inn (.var 11) (.ix (.var 7) (.cint 1))))) (.var 11) [11]) (.lst (es [])))) (ss [.ret (.lst (es []))]) (ss []), .iff (.v (.cmp .ne (.comp (.val (.var 4)) (.nm 12) (.some (.and2 (.v (.cmp .eq (.ix (.var 12) (.cint 0)) (.cstr [82]))) (.and1 (.v (.cmp .inn (.tup (es [.cstr [66], .ix (.var 12) (.cint 1)])) (.var 4)))))) (.var 12) [12]) (.lst (es [])))) (ss [.ret (.lst (es []))]) (ss []), .ret (.var 7)]
def b__law_lit : Ss := ss [.asg 4 (.call j__law_lights [.va, .va, .va] (es [.var 2, .var 3, .cint 0])), .for_ (.nm 5) (.rng1 (.bi1 .len (.var 2))) (ss [.asg 6 (.call j_light_of [.va, .va, .va] (es [.var 0, .var 1, .var 5])), .iff (.or2 (.not (.v (.isi (.var 6) .str))) (.or1 (.v (.cmp .ne (.var 6) (.ix (.var 4) (.var 5)))))) (ss [.ret (.cbl false)]) (ss [])]), .ret (.cbl true)]
def b_law : Ss := ss [.asg 1 (.cmp .eq (.ix (.callO j__law_row [.va, .va] (es [.call j__law_far [.va, .va] (es [.var 0, .cint 5]), .lst (es [.cint 6])])) (.cint 0)) (.cint 0)), .tgt (.tp [.nm 12, .nm 13, .nm 14, .nm 15]) (.call j__law_scene [.va, .va, .va] (es [.var 0, .var 1, .tup (es [.cint 7, .cint 3, .cint 6])])), .asg 2 (.callO j__law_row [.va, .va] (es [.call j__law_far [.va, .va] (es [.var 0, .cint 6]), .bin .mul (.lst (es [.cint 5040])) (.cint 30)])), .frz 2, .asg 3 (.makek 0 j_House_init [.va, .va] (es [.var 12, .bi1 .list (.var 13)]) (es []) [.inr (.str [82, 66])]), .asg 4 (.make 1 j_Standing_init [.bo, .bo] (es [.bi1 .list (.var 14), .bi1 .list (.var 15)])), .asg 5 (.call j__law_moment [.va, .va, .va, .va, .va, .va] (es [.var 3, .var 4, .var 12, .var 13, .var 14, .var 15])), .iff (.or2 (.v (.cmp .eq (.var 5) (.lst (es [])))) (.or1 (.not (.v (.call j__law_lit [.va, .va, .va, .va] (es [.var 3, .var 4, .var 13, .var 15])))))) (ss [.ret (.cbl false)]) (ss []), .asg 6 (.var 4), .asg 7 (.tup (es [.var 14, .var 15])), .asg 8 (.bin .mul (.lst (es [.cint 0])) (.bi1 .len (.var 13))), .asg 9 (.lst (es [])), .for_ (.nm 10) (.rng1 (.cint 30)) (ss [.asg 16 (.call j__law_possible [.va, .va, .va] (es [.var 13, .ix (.var 7) (.cint 0), .ix (.var 7) (.cint 1)])), .asg 17 (.call j_possible_deeds [.va, .va] (es [.var 3, .var 6])), .iff (.or2 (.not (.v (.call j__law_are_deeds [.va] (es [.var 17])))) (.or2 (.v (.cmp .ne (.var 17) (.var 16))) (.or1 (.v (.cmp .ne (.comp (.val (.var 17)) (.nm 21) (.some (.v (.cmp .gt (.ix (.var 8) (.ix (.var 21) (.cint 1))) (.cint 0)))) (.var 21) [21]) (.lst (es []))))))) (ss [.ret (.cbl false)]) (ss []), .iff (.v (.cmp .eq (.var 16) (.lst (es [])))) (ss [.brk]) (ss []), .tgt (.tp [.nm 19, .nm 20]) (.ix (.var 16) (.bin .mod (.bi1 .int (.ix (.var 2) (.var 10))) (.bi1 .len (.var 16)))), .iff (.v (.cmp .ne (.call j_light_of [.va, .va, .va] (es [.var 3, .var 6, .var 20])) (.ix (.ix (.ix (.var 7) (.cint 0)) (.var 19)) (.cint 0)))) (ss [.ret (.cbl false)]) (ss []), .asg 6 (.call j_do [.va, .va, .va, .va] (es [.var 3, .var 6, .var 19, .var 20])), .asg 7 (.call j__law_deed [.va, .va, .va, .va, .va] (es [.var 13, .ix (.var 7) (.cint 0), .ix (.var 7) (.cint 1), .var 19, .var 20])), .mu .append (.nm 9) (es [.tup (es [.var 19, .var 20])]), .iff (.v (.cmp .ne (.call j_light_of [.va, .va, .va] (es [.var 3, .var 6, .var 20])) (.ix (.ix (.ix (.var 7) (.cint 0)) (.var 19)) (.cint 0)))) (ss [.setix (.nm 8) (.var 20) (.bin .add (.ix (.var 8) (.var 20)) (.cint 1))]) (ss []), .asg 18 (.call j__law_moment [.va, .va, .va, .va, .va, .va] (es [.var 3, .var 6, .var 12, .var 13, .ix (.var 7) (.cint 0), .ix (.var 7) (.cint 1)])), .iff (.or2 (.v (.cmp .eq (.var 18) (.lst (es [])))) (.or1 (.v (.cmp .gt (.ix (.var 8) (.var 20)) (.cint 1))))) (ss [.ret (.cbl false)]) (ss []), .iff (.not (.v (.call j__law_fewer [.va, .va, .va] (es [.var 5, .var 18, .m1 .sindex (.cstr [82, 66]) (.ix (.ix (.ix (.var 7) (.cint 0)) (.var 19)) (.cint 0))])))) (ss [.ret (.cbl false)]) (ss []), .asg 5 (.var 18)]), .frz 9, .frz 8, .iff (.v (.cmp .eq (.call j__law_moment [.va, .va, .va, .va, .va, .va] (es [.var 3, .var 4, .var 12, .var 13, .var 14, .var 15])) (.lst (es [])))) (ss [.ret (.cbl false)]) (ss []), .asg 11 (.call j_replay [.va, .va, .va] (es [.var 3, .var 4, .make 2 j_Run_init [.va] (es [.bi1 .list (.var 9)])])), .iff (.or2 (.not (.v (.call j__law_is_standing [.va, .va, .va] (es [.var 11, .ix (.var 7) (.cint 0), .ix (.var 7) (.cint 1)])))) (.or1 (.not (.v (.call j__law_lit [.va, .va, .va, .va] (es [.var 3, .var 6, .var 13, .ix (.var 7) (.cint 1)])))))) (ss [.ret (.cbl false)]) (ss []), .ret (.and2 (.call j__law_is_standing [.va, .va, .va] (es [.var 4, .var 14, .var 15])) (.and1 (.call j__law_is_house [.va, .va, .va] (es [.var 3, .var 12, .var 13]))))]

def f_is_index : FnS := { name := "is_index", cls := none, ps := ["number", "size"], ms := [.va, .va], kwn := [], dfl := [], kns := [], N := ["number", "size"], body := b_is_index, lv := 0 }
def f__are_trades : FnS := { name := "_are_trades", cls := none, ps := ["trades"], ms := [.va], kwn := [], dfl := [], kns := [], N := ["trades", "letter"], body := b__are_trades, lv := 0 }
def f__is_connected : FnS := { name := "_is_connected", cls := none, ps := ["rooms", "doors"], ms := [.va, .va], kwn := [], dfl := [], kns := [], N := ["rooms", "doors", "labels", "first", "second", "_", "old", "new", "label"], body := b__is_connected, lv := 0 }
def f_Standing_init : FnS := { name := "__init__", cls := (some 1), ps := ["self", "hands", "places"], ms := [.io, .bo, .bo], kwn := [], dfl := [], kns := [], N := ["self", "hands", "places", "hand"], body := b_Standing_init, lv := 0 }
def f__is_trade : FnS := { name := "_is_trade", cls := none, ps := ["house", "trade"], ms := [.va, .va], kwn := [], dfl := [], kns := [], N := ["house", "trade"], body := b__is_trade, lv := 0 }
def f_lights_at : FnS := { name := "lights_at", cls := none, ps := ["house", "standing", "back"], ms := [.va, .va, .va], kwn := [], dfl := [], kns := [], N := ["house", "standing", "back", "place", "_", "cycle"], body := b_lights_at, lv := 0 }
def f_need_trade : FnS := { name := "need_trade", cls := none, ps := ["house", "trade"], ms := [.va, .va], kwn := [], dfl := [], kns := [], N := ["house", "trade"], body := b_need_trade, lv := 0 }
def f_need_no_masters : FnS := { name := "need_no_masters", cls := none, ps := ["standing"], ms := [.va], kwn := [], dfl := [], kns := [], N := ["standing", "hand"], body := b_need_no_masters, lv := 0 }
def f_Run_init : FnS := { name := "__init__", cls := (some 2), ps := ["self", "deeds"], ms := [.io, .va], kwn := [], dfl := [], kns := [], N := ["self", "deeds", "deed"], body := b_Run_init, lv := 0 }
def f__step : FnS := { name := "_step", cls := none, ps := ["house", "hands", "places", "hand", "door"], ms := [.va, .io, .io, .va, .va], kwn := [], dfl := [], kns := [], N := ["house", "hands", "places", "hand", "door", "trade", "room", "first", "second", "cycle"], body := b__step, lv := 0 }
def f_rooms_of : FnS := { name := "rooms_of", cls := none, ps := ["standing", "trade"], ms := [.va, .va], kwn := [], dfl := [], kns := [], N := ["standing", "trade", "own", "room"], body := b_rooms_of, lv := 0 }
def f_walk_from : FnS := { name := "walk_from", cls := none, ps := ["house", "rooms", "letters", "trade"], ms := [.va, .va, .va, .va], kwn := [], dfl := [], kns := [], N := ["house", "rooms", "letters", "trade", "reached", "grown", "room", "letter", "first", "second", "_"], body := b_walk_from, lv := 0 }
def f__law_cell : FnS := { name := "_law_cell", cls := none, ps := ["_law_script", "_law_k"], ms := [.va, .va], kwn := [], dfl := [], kns := [], N := ["_law_script", "_law_k"], body := b__law_cell, lv := 0 }
def f__law_row : FnS := { name := "_law_row", cls := none, ps := ["_law_cell_here", "_law_sizes"], ms := [.va, .va], kwn := [], dfl := [], kns := [], N := ["_law_cell_here", "_law_sizes", "_law_row_here", "_law_rest", "_law_k", "_law_mixed"], body := b__law_row, lv := 0, own := true }
def f__law_odd_cycle : FnS := { name := "_law_odd_cycle", cls := none, ps := ["_law_row_here", "_law_at", "_law_longest"], ms := [.va, .va, .va], kwn := [], dfl := [], kns := [], N := ["_law_row_here", "_law_at", "_law_longest", "_law_size", "_law_letters", "_law_k", "_law_tails"], body := b__law_odd_cycle, lv := 0 }
def f__law_any_cycle : FnS := { name := "_law_any_cycle", cls := none, ps := ["_law_row_here", "_law_at", "_law_longest"], ms := [.va, .va, .va], kwn := [], dfl := [], kns := [], N := ["_law_row_here", "_law_at", "_law_longest", "_law_size", "_law_letters", "_law_k"], body := b__law_any_cycle, lv := 0 }
def f__law_is_integer : FnS := { name := "_law_is_integer", cls := none, ps := ["_law_actual"], ms := [.va], kwn := [], dfl := [], kns := [], N := ["_law_actual"], body := b__law_is_integer, lv := 0 }
def f__law_deed : FnS := { name := "_law_deed", cls := none, ps := ["_law_doors", "_law_hands", "_law_places", "_law_hand", "_law_door"], ms := [.va, .va, .va, .va, .va], kwn := [], dfl := [], kns := [], N := ["_law_doors", "_law_hands", "_law_places", "_law_hand", "_law_door", "_law_guild", "_law_spot", "_law_new_hands", "_law_new_places"], body := b__law_deed, lv := 0 }
def f__law_lights : FnS := { name := "_law_lights", cls := none, ps := ["_law_doors", "_law_places", "_law_back"], ms := [.va, .va, .va], kwn := [], dfl := [], kns := [], N := ["_law_doors", "_law_places", "_law_back", "_law_k"], body := b__law_lights, lv := 0 }
def f__law_spread : FnS := { name := "_law_spread", cls := none, ps := ["_law_rooms", "_law_doors", "_law_hands", "_law_letters", "_law_guild"], ms := [.va, .va, .va, .va, .va], kwn := [], dfl := [], kns := [], N := ["_law_rooms", "_law_doors", "_law_hands", "_law_letters", "_law_guild", "_law_seen", "_law_hand", "_law_turn", "_law_k"], body := b__law_spread, lv := 0 }
def f__law_ends : FnS := { name := "_law_ends", cls := none, ps := ["_law_k", "_law_near", "_law_shut", "_law_rooms", "_law_parts", "_law_pick"], ms := [.va, .va, .va, .va, .va, .va], kwn := [], dfl := [], kns := [], N := ["_law_k", "_law_near", "_law_shut", "_law_rooms", "_law_parts", "_law_pick", "_law_one", "_law_others", "_law_spot"], body := b__law_ends, lv := 0 }
def f__law_marks : FnS := { name := "_law_marks", cls := none, ps := ["_law_row_here", "_law_at", "_law_doors", "_law_sides"], ms := [.va, .va, .va, .va], kwn := [], dfl := [], kns := [], N := ["_law_row_here", "_law_at", "_law_doors", "_law_sides", "_law_marks_here", "_law_k", "_law_cycle", "_law_pair", "_law_letter", "_law_good", "_law_mark"], body := b__law_marks, lv := 0 }
def f__law_fewer : FnS := { name := "_law_fewer", cls := none, ps := ["_law_before", "_law_after", "_law_mover"], ms := [.va, .va, .va], kwn := [], dfl := [], kns := [], N := ["_law_before", "_law_after", "_law_mover", "_law_spot"], body := b__law_fewer, lv := 0 }
def f__is_door : FnS := { name := "_is_door", cls := none, ps := ["rooms", "trades", "door"], ms := [.va, .va, .va], kwn := [], dfl := [], kns := [], N := ["rooms", "trades", "door", "first", "second", "cycle", "letter"], body := b__is_door, lv := 1 }
def f_fits : FnS := { name := "fits", cls := none, ps := ["house", "standing"], ms := [.va, .va], kwn := [], dfl := [], kns := [], N := ["house", "standing", "place", "trade", "room", "_", "cycle"], body := b_fits, lv := 1 }
def f_need_doors : FnS := { name := "need_doors", cls := none, ps := ["house", "doors"], ms := [.va, .va], kwn := [], dfl := [], kns := [], N := ["house", "doors", "door"], body := b_need_doors, lv := 1 }
def f_need_hands : FnS := { name := "need_hands", cls := none, ps := ["standing", "hands"], ms := [.va, .va], kwn := [], dfl := [], kns := [], N := ["standing", "hands", "hand"], body := b_need_hands, lv := 1 }
def f_need_two_trades : FnS := { name := "need_two_trades", cls := none, ps := ["house", "standing"], ms := [.va, .va], kwn := [], dfl := [], kns := [], N := ["house", "standing"], body := b_need_two_trades, lv := 1 }
def f__may_pass : FnS := { name := "_may_pass", cls := none, ps := ["house", "hands", "places", "hand", "door"], ms := [.va, .bo, .bo, .va, .va], kwn := [], dfl := [], kns := [], N := ["house", "hands", "places", "hand", "door", "trade", "room", "first", "second", "cycle"], body := b__may_pass, lv := 1 }
def f_after_deed : FnS := { name := "after_deed", cls := none, ps := ["house", "standing", "hand", "door"], ms := [.va, .va, .va, .va], kwn := [], dfl := [], kns := [], N := ["house", "standing", "hand", "door", "hands", "places"], body := b_after_deed, lv := 1 }
def f_spread_over : FnS := { name := "spread_over", cls := none, ps := ["house", "standing", "letters", "trade"], ms := [.va, .va, .va, .va], kwn := [], dfl := [], kns := [], N := ["house", "standing", "letters", "trade"], body := b_spread_over, lv := 1 }
def f__law_house : FnS := { name := "_law_house", cls := none, ps := ["_law_cell_here", "_law_most", "_law_extra", "_law_longest", "_law_odd"], ms := [.va, .va, .va, .va, .va], kwn := [], dfl := [], kns := [], N := ["_law_cell_here", "_law_most", "_law_extra", "_law_longest", "_law_odd", "_law_sizes", "_law_wide", "_law_k", "_law_row_here", "_law_rooms", "_law_many", "_law_names", "_law_doors", "_law_at", "_law_far_here", "_law_near", "_law_cycle"], body := b__law_house, lv := 1 }
def f__law_integers : FnS := { name := "_law_integers", cls := none, ps := ["_law_actual"], ms := [.va], kwn := [], dfl := [], kns := [], N := ["_law_actual", "_law_number"], body := b__law_integers, lv := 1 }
def f__law_is_standing : FnS := { name := "_law_is_standing", cls := none, ps := ["_law_actual", "_law_hands", "_law_places"], ms := [.va, .va, .va], kwn := [], dfl := [], kns := [], N := ["_law_actual", "_law_hands", "_law_places", "_law_k", "_law_hand"], body := b__law_is_standing, lv := 1 }
def f__law_possible : FnS := { name := "_law_possible", cls := none, ps := ["_law_doors", "_law_hands", "_law_places"], ms := [.va, .va, .va], kwn := [], dfl := [], kns := [], N := ["_law_doors", "_law_hands", "_law_places", "_law_deeds", "_law_hand", "_law_door"], body := b__law_possible, lv := 1 }
def f__law_far : FnS := { name := "_law_far", cls := none, ps := ["_law_script", "_law_k"], ms := [.va, .va], kwn := [], dfl := [], kns := [], N := ["_law_script", "_law_k"], body := b__law_far, lv := 1 }
def f__law_two_parts : FnS := { name := "_law_two_parts", cls := none, ps := ["_law_cell_here", "_law_extra", "_law_longest"], ms := [.va, .va, .va], kwn := [], dfl := [], kns := [], N := ["_law_cell_here", "_law_extra", "_law_longest", "_law_wide", "_law_sizes", "_law_k", "_law_row_here", "_law_near", "_law_shut", "_law_rooms", "_law_parts", "_law_names", "_law_doors", "_law_sides", "_law_at", "_law_ends_here", "_law_cycle", "_law_one", "_law_others"], body := b__law_two_parts, lv := 1 }
def f__law_placed : FnS := { name := "_law_placed", cls := none, ps := ["_law_cell_here", "_law_rooms", "_law_doors", "_law_sides", "_law_least", "_law_most"], ms := [.va, .va, .va, .va, .va, .va], kwn := [], dfl := [], kns := [], N := ["_law_cell_here", "_law_rooms", "_law_doors", "_law_sides", "_law_least", "_law_most", "_law_row_here", "_law_which", "_law_hands", "_law_k", "_law_at", "_law_spots", "_law_spot"], body := b__law_placed, lv := 1 }
def f__law_are_deeds : FnS := { name := "_law_are_deeds", cls := none, ps := ["_law_actual"], ms := [.va], kwn := [], dfl := [], kns := [], N := ["_law_actual", "_law_deed_here"], body := b__law_are_deeds, lv := 1 }
def f__law_is_house : FnS := { name := "_law_is_house", cls := none, ps := ["_law_actual", "_law_rooms", "_law_doors"], ms := [.va, .va, .va], kwn := [], dfl := [], kns := [], N := ["_law_actual", "_law_rooms", "_law_doors"], body := b__law_is_house, lv := 1 }
def f__law_reached : FnS := { name := "_law_reached", cls := none, ps := ["_law_rooms", "_law_doors", "_law_hands", "_law_marks_here", "_law_guild"], ms := [.va, .va, .va, .va, .va], kwn := [], dfl := [], kns := [], N := ["_law_rooms", "_law_doors", "_law_hands", "_law_marks_here", "_law_guild", "_law_seen", "_law_spot"], body := b__law_reached, lv := 1 }
def f_House_init : FnS := { name := "__init__", cls := (some 0), ps := ["self", "rooms", "doors", "trades"], ms := [.io, .va, .va, .va], kwn := ["trades"], dfl := [.str [82, 66]], kns := [[]], N := ["self", "rooms", "doors", "trades", "door", "first", "second", "cycle"], body := b_House_init, lv := 2 }
def f__need_fits : FnS := { name := "_need_fits", cls := none, ps := ["house", "standing"], ms := [.va, .va], kwn := [], dfl := [], kns := [], N := ["house", "standing"], body := b__need_fits, lv := 2 }
def f_need_fits : FnS := { name := "need_fits", cls := none, ps := ["house", "standing"], ms := [.va, .va], kwn := [], dfl := [], kns := [], N := ["house", "standing"], body := b_need_fits, lv := 2 }
def f_is_possible : FnS := { name := "is_possible", cls := none, ps := ["house", "standing", "hand", "door"], ms := [.va, .va, .va, .va], kwn := [], dfl := [], kns := [], N := ["house", "standing", "hand", "door"], body := b_is_possible, lv := 2 }
def f_shared_rooms : FnS := { name := "shared_rooms", cls := none, ps := ["house", "standing", "back"], ms := [.va, .va, .va], kwn := [], dfl := [], kns := [], N := ["house", "standing", "back", "letters", "blues", "room"], body := b_shared_rooms, lv := 2 }
def f__law_scene : FnS := { name := "_law_scene", cls := none, ps := ["_law_script", "_law_free", "_law_size"], ms := [.va, .va, .va], kwn := [], dfl := [], kns := [], N := ["_law_script", "_law_free", "_law_size", "_law_sides", "_law_door", "_law_rooms", "_law_doors", "_law_hands", "_law_marks_here"], body := b__law_scene, lv := 2 }
def f__letter_of : FnS := { name := "_letter_of", cls := none, ps := ["house", "standing", "door", "back"], ms := [.va, .va, .va, .va], kwn := [], dfl := [], kns := [], N := ["house", "standing", "door", "back"], body := b__letter_of, lv := 3 }
def f_do : FnS := { name := "do", cls := none, ps := ["house", "standing", "hand", "door"], ms := [.va, .va, .va, .va], kwn := [], dfl := [], kns := [], N := ["house", "standing", "hand", "door"], body := b_do, lv := 3 }
def f_possible_deeds : FnS := { name := "possible_deeds", cls := none, ps := ["house", "standing"], ms := [.va, .va], kwn := [], dfl := [], kns := [], N := ["house", "standing", "hands", "doors", "hand", "door"], body := b_possible_deeds, lv := 3 }
def f_replay : FnS := { name := "replay", cls := none, ps := ["house", "standing", "run"], ms := [.va, .va, .va], kwn := [], dfl := [], kns := [], N := ["house", "standing", "run", "hands", "places", "at", "hand", "door"], body := b_replay, lv := 3 }
def f_spread_of : FnS := { name := "spread_of", cls := none, ps := ["house", "standing", "trade"], ms := [.va, .va, .va], kwn := [], dfl := [], kns := [], N := ["house", "standing", "trade"], body := b_spread_of, lv := 3 }
def f_meeting_rooms : FnS := { name := "meeting_rooms", cls := none, ps := ["house", "standing"], ms := [.va, .va], kwn := [], dfl := [], kns := [], N := ["house", "standing"], body := b_meeting_rooms, lv := 3 }
def f_light_of : FnS := { name := "light_of", cls := none, ps := ["house", "standing", "door"], ms := [.va, .va, .va], kwn := [], dfl := [], kns := [], N := ["house", "standing", "door"], body := b_light_of, lv := 4 }
def f_is_live : FnS := { name := "is_live", cls := none, ps := ["house", "standing"], ms := [.va, .va], kwn := [], dfl := [], kns := [], N := ["house", "standing"], body := b_is_live, lv := 4 }
def f__law_moment : FnS := { name := "_law_moment", cls := none, ps := ["_law_house_here", "_law_standing", "_law_rooms", "_law_doors", "_law_hands", "_law_marks_here"], ms := [.va, .va, .va, .va, .va, .va], kwn := [], dfl := [], kns := [], N := ["_law_house_here", "_law_standing", "_law_rooms", "_law_doors", "_law_hands", "_law_marks_here", "_law_live", "_law_dues", "_law_k", "_law_told", "_law_guild", "_law_spot", "_law_hand"], body := b__law_moment, lv := 5 }
def f__law_lit : FnS := { name := "_law_lit", cls := none, ps := ["_law_house_here", "_law_standing", "_law_doors", "_law_marks_here"], ms := [.va, .va, .va, .va], kwn := [], dfl := [], kns := [], N := ["_law_house_here", "_law_standing", "_law_doors", "_law_marks_here", "_law_letters", "_law_k", "_law_told"], body := b__law_lit, lv := 5 }
def f_law : FnS := { name := "law", cls := none, ps := ["_law_script"], ms := [.va], kwn := [], dfl := [], kns := [], N := ["_law_script", "_law_free", "_law_row_here", "_law_house_here", "_law_origin", "_law_spreads", "_law_now", "_law_state", "_law_changes", "_law_deeds", "_law_k", "_law_last", "_law_rooms", "_law_doors", "_law_hands", "_law_marks_here", "_law_choices", "_law_told", "_law_after", "_law_hand", "_law_door", "_law_deed_here"], body := b_law, lv := 6 }
def T : Tab := { nm := ["hands", "places", "trades", "doors", "rooms", "deeds"], cl := ["House", "Standing", "Run"], gl := [("LETTERS", .str [65, 66, 67, 68, 69, 70, 71, 72, 73, 74, 75, 76, 77, 78, 79, 80, 81, 82, 83, 84, 85, 86, 87, 88, 89, 90])], fn := [f_is_index, f__are_trades, f__is_connected, f_Standing_init, f__is_trade, f_lights_at, f_need_trade, f_need_no_masters, f_Run_init, f__step, f_rooms_of, f_walk_from, f__law_cell, f__law_row, f__law_odd_cycle, f__law_any_cycle, f__law_is_integer, f__law_deed, f__law_lights, f__law_spread, f__law_ends, f__law_marks, f__law_fewer, f__is_door, f_fits, f_need_doors, f_need_hands, f_need_two_trades, f__may_pass, f_after_deed, f_spread_over, f__law_house, f__law_integers, f__law_is_standing, f__law_possible, f__law_far, f__law_two_parts, f__law_placed, f__law_are_deeds, f__law_is_house, f__law_reached, f_House_init, f__need_fits, f_need_fits, f_is_possible, f_shared_rooms, f__law_scene, f__letter_of, f_do, f_possible_deeds, f_replay, f_spread_of, f_meeting_rooms, f_light_of, f_is_live, f__law_moment, f__law_lit, f_law], na := [(0, 2), (0, 3), (0, 4), (1, 0), (1, 1), (2, 5)] }
def d_is_index : He.DefD := ⟨("is_index", none), "is_index", "is_index", L2.defArgs (top 9), L2.defBody (top 9), L2.defScope (top 9), [], []⟩
def d__are_trades : He.DefD := ⟨("_are_trades", none), "_are_trades", "_are_trades", L2.defArgs (top 12), L2.defBody (top 12), L2.defScope (top 12), [], []⟩
def d__is_connected : He.DefD := ⟨("_is_connected", none), "_is_connected", "_is_connected", L2.defArgs (top 14), L2.defBody (top 14), L2.defScope (top 14), [], []⟩
def d_Standing_init : He.DefD := ⟨("Standing", some "__init__"), "__init__", "Standing.__init__", L2.defArgs (sub 17 0), L2.defBody (sub 17 0), L2.defScope (sub 17 0), [], []⟩
def d__is_trade : He.DefD := ⟨("_is_trade", none), "_is_trade", "_is_trade", L2.defArgs (top 18), L2.defBody (top 18), L2.defScope (top 18), [], []⟩
def d_lights_at : He.DefD := ⟨("lights_at", none), "lights_at", "lights_at", L2.defArgs (top 21), L2.defBody (top 21), L2.defScope (top 21), [], []⟩
def d_need_trade : He.DefD := ⟨("need_trade", none), "need_trade", "need_trade", L2.defArgs (top 28), L2.defBody (top 28), L2.defScope (top 28), [], []⟩
def d_need_no_masters : He.DefD := ⟨("need_no_masters", none), "need_no_masters", "need_no_masters", L2.defArgs (top 29), L2.defBody (top 29), L2.defScope (top 29), [], []⟩
def d_Run_init : He.DefD := ⟨("Run", some "__init__"), "__init__", "Run.__init__", L2.defArgs (sub 32 0), L2.defBody (sub 32 0), L2.defScope (sub 32 0), [], []⟩
def d__step : He.DefD := ⟨("_step", none), "_step", "_step", L2.defArgs (top 34), L2.defBody (top 34), L2.defScope (top 34), [], []⟩
def d_rooms_of : He.DefD := ⟨("rooms_of", none), "rooms_of", "rooms_of", L2.defArgs (top 41), L2.defBody (top 41), L2.defScope (top 41), [], []⟩
def d_walk_from : He.DefD := ⟨("walk_from", none), "walk_from", "walk_from", L2.defArgs (top 42), L2.defBody (top 42), L2.defScope (top 42), [], []⟩
def d__law_cell : He.DefD := ⟨("_law_cell", none), "_law_cell", "_law_cell", L2.defArgs (top 49), L2.defBody (top 49), L2.defScope (top 49), [], []⟩
def d__law_row : He.DefD := ⟨("_law_row", none), "_law_row", "_law_row", L2.defArgs (top 50), L2.defBody (top 50), L2.defScope (top 50), [], []⟩
def d__law_odd_cycle : He.DefD := ⟨("_law_odd_cycle", none), "_law_odd_cycle", "_law_odd_cycle", L2.defArgs (top 51), L2.defBody (top 51), L2.defScope (top 51), [], []⟩
def d__law_any_cycle : He.DefD := ⟨("_law_any_cycle", none), "_law_any_cycle", "_law_any_cycle", L2.defArgs (top 52), L2.defBody (top 52), L2.defScope (top 52), [], []⟩
def d__law_is_integer : He.DefD := ⟨("_law_is_integer", none), "_law_is_integer", "_law_is_integer", L2.defArgs (top 54), L2.defBody (top 54), L2.defScope (top 54), [], []⟩
def d__law_deed : He.DefD := ⟨("_law_deed", none), "_law_deed", "_law_deed", L2.defArgs (top 57), L2.defBody (top 57), L2.defScope (top 57), [], []⟩
def d__law_lights : He.DefD := ⟨("_law_lights", none), "_law_lights", "_law_lights", L2.defArgs (top 59), L2.defBody (top 59), L2.defScope (top 59), [], []⟩
def d__law_spread : He.DefD := ⟨("_law_spread", none), "_law_spread", "_law_spread", L2.defArgs (top 60), L2.defBody (top 60), L2.defScope (top 60), [], []⟩
def d__law_ends : He.DefD := ⟨("_law_ends", none), "_law_ends", "_law_ends", L2.defArgs (top 62), L2.defBody (top 62), L2.defScope (top 62), [], []⟩
def d__law_marks : He.DefD := ⟨("_law_marks", none), "_law_marks", "_law_marks", L2.defArgs (top 64), L2.defBody (top 64), L2.defScope (top 64), [], []⟩
def d__law_fewer : He.DefD := ⟨("_law_fewer", none), "_law_fewer", "_law_fewer", L2.defArgs (top 72), L2.defBody (top 72), L2.defScope (top 72), [], []⟩
def d__is_door : He.DefD := ⟨("_is_door", none), "_is_door", "_is_door", L2.defArgs (top 13), L2.defBody (top 13), L2.defScope (top 13), [], []⟩
def d_fits : He.DefD := ⟨("fits", none), "fits", "fits", L2.defArgs (top 19), L2.defBody (top 19), L2.defScope (top 19), [], []⟩
def d_need_doors : He.DefD := ⟨("need_doors", none), "need_doors", "need_doors", L2.defArgs (top 26), L2.defBody (top 26), L2.defScope (top 26), [], []⟩
def d_need_hands : He.DefD := ⟨("need_hands", none), "need_hands", "need_hands", L2.defArgs (top 27), L2.defBody (top 27), L2.defScope (top 27), [], []⟩
def d_need_two_trades : He.DefD := ⟨("need_two_trades", none), "need_two_trades", "need_two_trades", L2.defArgs (top 30), L2.defBody (top 30), L2.defScope (top 30), [], []⟩
def d__may_pass : He.DefD := ⟨("_may_pass", none), "_may_pass", "_may_pass", L2.defArgs (top 33), L2.defBody (top 33), L2.defScope (top 33), [], []⟩
def d_after_deed : He.DefD := ⟨("after_deed", none), "after_deed", "after_deed", L2.defArgs (top 36), L2.defBody (top 36), L2.defScope (top 36), [], []⟩
def d_spread_over : He.DefD := ⟨("spread_over", none), "spread_over", "spread_over", L2.defArgs (top 43), L2.defBody (top 43), L2.defScope (top 43), [], []⟩
def d__law_house : He.DefD := ⟨("_law_house", none), "_law_house", "_law_house", L2.defArgs (top 53), L2.defBody (top 53), L2.defScope (top 53), [], []⟩
def d__law_integers : He.DefD := ⟨("_law_integers", none), "_law_integers", "_law_integers", L2.defArgs (top 55), L2.defBody (top 55), L2.defScope (top 55), [], []⟩
def d__law_is_standing : He.DefD := ⟨("_law_is_standing", none), "_law_is_standing", "_law_is_standing", L2.defArgs (top 56), L2.defBody (top 56), L2.defScope (top 56), [], []⟩
def d__law_possible : He.DefD := ⟨("_law_possible", none), "_law_possible", "_law_possible", L2.defArgs (top 58), L2.defBody (top 58), L2.defScope (top 58), [], []⟩
def d__law_far : He.DefD := ⟨("_law_far", none), "_law_far", "_law_far", L2.defArgs (top 61), L2.defBody (top 61), L2.defScope (top 61), [], []⟩
def d__law_two_parts : He.DefD := ⟨("_law_two_parts", none), "_law_two_parts", "_law_two_parts", L2.defArgs (top 63), L2.defBody (top 63), L2.defScope (top 63), [], []⟩
def d__law_placed : He.DefD := ⟨("_law_placed", none), "_law_placed", "_law_placed", L2.defArgs (top 65), L2.defBody (top 65), L2.defScope (top 65), [], []⟩
def d__law_are_deeds : He.DefD := ⟨("_law_are_deeds", none), "_law_are_deeds", "_law_are_deeds", L2.defArgs (top 67), L2.defBody (top 67), L2.defScope (top 67), [], []⟩
def d__law_is_house : He.DefD := ⟨("_law_is_house", none), "_law_is_house", "_law_is_house", L2.defArgs (top 68), L2.defBody (top 68), L2.defScope (top 68), [], []⟩
def d__law_reached : He.DefD := ⟨("_law_reached", none), "_law_reached", "_law_reached", L2.defArgs (top 69), L2.defBody (top 69), L2.defScope (top 69), [], []⟩
def d_House_init : He.DefD := ⟨("House", some "__init__"), "__init__", "House.__init__", L2.defArgs (sub 15 0), L2.defBody (sub 15 0), L2.defScope (sub 15 0), [], [("trades", .str "RB")]⟩
def d__need_fits : He.DefD := ⟨("_need_fits", none), "_need_fits", "_need_fits", L2.defArgs (top 20), L2.defBody (top 20), L2.defScope (top 20), [], []⟩
def d_need_fits : He.DefD := ⟨("need_fits", none), "need_fits", "need_fits", L2.defArgs (top 25), L2.defBody (top 25), L2.defScope (top 25), [], []⟩
def d_is_possible : He.DefD := ⟨("is_possible", none), "is_possible", "is_possible", L2.defArgs (top 35), L2.defBody (top 35), L2.defScope (top 35), [], []⟩
def d_shared_rooms : He.DefD := ⟨("shared_rooms", none), "shared_rooms", "shared_rooms", L2.defArgs (top 44), L2.defBody (top 44), L2.defScope (top 44), [], []⟩
def d__law_scene : He.DefD := ⟨("_law_scene", none), "_law_scene", "_law_scene", L2.defArgs (top 66), L2.defBody (top 66), L2.defScope (top 66), [], []⟩
def d__letter_of : He.DefD := ⟨("_letter_of", none), "_letter_of", "_letter_of", L2.defArgs (top 22), L2.defBody (top 22), L2.defScope (top 22), [], []⟩
def d_do : He.DefD := ⟨("do", none), "do", "do", L2.defArgs (top 37), L2.defBody (top 37), L2.defScope (top 37), [], []⟩
def d_possible_deeds : He.DefD := ⟨("possible_deeds", none), "possible_deeds", "possible_deeds", L2.defArgs (top 38), L2.defBody (top 38), L2.defScope (top 38), [], []⟩
def d_replay : He.DefD := ⟨("replay", none), "replay", "replay", L2.defArgs (top 39), L2.defBody (top 39), L2.defScope (top 39), [], []⟩
def d_spread_of : He.DefD := ⟨("spread_of", none), "spread_of", "spread_of", L2.defArgs (top 45), L2.defBody (top 45), L2.defScope (top 45), [], []⟩
def d_meeting_rooms : He.DefD := ⟨("meeting_rooms", none), "meeting_rooms", "meeting_rooms", L2.defArgs (top 46), L2.defBody (top 46), L2.defScope (top 46), [], []⟩
def d_light_of : He.DefD := ⟨("light_of", none), "light_of", "light_of", L2.defArgs (top 23), L2.defBody (top 23), L2.defScope (top 23), [], []⟩
def d_is_live : He.DefD := ⟨("is_live", none), "is_live", "is_live", L2.defArgs (top 47), L2.defBody (top 47), L2.defScope (top 47), [], []⟩
def d__law_moment : He.DefD := ⟨("_law_moment", none), "_law_moment", "_law_moment", L2.defArgs (top 70), L2.defBody (top 70), L2.defScope (top 70), [], []⟩
def d__law_lit : He.DefD := ⟨("_law_lit", none), "_law_lit", "_law_lit", L2.defArgs (top 71), L2.defBody (top 71), L2.defScope (top 71), [], []⟩
def d_law : He.DefD := ⟨("law", none), "law", "law", L2.defArgs (top 73), L2.defBody (top 73), L2.defScope (top 73), [], []⟩
def D : List He.DefD := [d_is_index, d__are_trades, d__is_connected, d_Standing_init, d__is_trade, d_lights_at, d_need_trade, d_need_no_masters, d_Run_init, d__step, d_rooms_of, d_walk_from, d__law_cell, d__law_row, d__law_odd_cycle, d__law_any_cycle, d__law_is_integer, d__law_deed, d__law_lights, d__law_spread, d__law_ends, d__law_marks, d__law_fewer, d__is_door, d_fits, d_need_doors, d_need_hands, d_need_two_trades, d__may_pass, d_after_deed, d_spread_over, d__law_house, d__law_integers, d__law_is_standing, d__law_possible, d__law_far, d__law_two_parts, d__law_placed, d__law_are_deeds, d__law_is_house, d__law_reached, d_House_init, d__need_fits, d_need_fits, d_is_possible, d_shared_rooms, d__law_scene, d__letter_of, d_do, d_possible_deeds, d_replay, d_spread_of, d_meeting_rooms, d_light_of, d_is_live, d__law_moment, d__law_lit, d_law]
end Lt
set_option maxHeartbeats 0
namespace Lt
open Lh PySem PySem.Spec PyProof.Rows L2
def ln0 : List PySem.Str := ["HouseError", "InvalidHouse", "BadDeed", "NotPossible", "InvalidStanding", "UnknownPart", "WrongTrades", "is_index", "LETTERS", "_are_trades", "_is_door", "_is_connected", "House", "Standing", "_is_trade", "fits", "_need_fits", "lights_at", "_letter_of", "light_of", "need_fits", "need_doors", "need_hands", "need_trade", "need_no_masters", "need_two_trades", "Run", "_may_pass", "_step", "is_possible"]
def ln1 : List PySem.Str := ["after_deed", "do", "possible_deeds", "replay", "rooms_of", "walk_from", "spread_over", "shared_rooms", "spread_of", "meeting_rooms", "is_live", "_law_cell", "_law_row", "_law_odd_cycle", "_law_any_cycle", "_law_house", "_law_is_integer", "_law_integers", "_law_is_standing", "_law_deed", "_law_possible", "_law_lights", "_law_spread", "_law_far", "_law_ends", "_law_two_parts", "_law_marks", "_law_placed", "_law_scene", "_law_are_deeds"]
def ln2 : List PySem.Str := ["_law_is_house", "_law_reached", "_law_moment", "_law_lit", "_law_fewer"]
def loose : List PySem.Str := ln0 ++ ln1 ++ ln2
abbrev Rw : PySem.W.OpenRow := PySem.W.OpenLaw.row PySem.Challenge.rw_lanternhouse_k85_whole_dead_runs
abbrev hkX : PySem.W.Hook := He.hookX 4 (faOf T) D [] [] (isiB T.cl)
def obW (s : PySem.W.SharedT) : He.AlX := He.obsX 4 (faOf T) D [] [] (isiB T.cl) (HandSHeadRun.getT s)
theorem obW_eq (s : PySem.W.SharedT) : obW s = hkX.obs s.abs := He.obsX_eq (HandSHeadRun.getT_eq s)
theorem runs (w : World) : HandSHeadRun.RunEq Rw (PySem.W.view Rw.prog [73]) hkX obW 30000 loose w := by
  intro os
  kernel_rfl
end Lt
set_option maxHeartbeats 200000
/-! E2: values over the abstract heap. -/
namespace Lh
open PySem PySem.Spec PyProof.Rows L2
/-- names and addresses -/
structure Cn where
  K : PySem.W.Frag
  ga : Nat → Addr
  nm : Nat → Option Str
  cs : List Nat
  ow : Nat → Bool := fun _ => false
/-- a class of the table -/
def Cn.Cl (C : Cn) (c : Nat) : Prop := c ∈ C.cs ∧ Cls C.K (C.ga c)
def Hp0 : Hp := fun _ => none
section
variable (C : Cn)
def TupAt (O : Addr → Prop) (H : Hp) (a : Addr) (vs : List V) : Prop := (¬ O a ∧ H a = some (.tup vs)) ∨ SqT C.K Hp0 a vs
def RoAt (O : Addr → Prop) (H : Hp) (a : Addr) (vs : List V) : Prop := (¬ O a ∧ Rd H a (.lst vs)) ∨ SqL C.K Hp0 a vs
mutual
def Rep (O : Addr → Prop) (H : Hp) : PV → V → Prop
  | .int i, v => v = .int i
  | .bl b, v => v = .bl b
  | .non, v => v = .non
  | .str s, v => v = .str ⟨s.toArray⟩
  | .tup l, v => ∃ a vs, v = .ref a ∧ TupAt C O H a vs ∧ Reps O H l vs
  | .lst l, v => ∃ a vs, v = .ref a ∧ (¬ O a ∧ H a = some (.lst vs)) ∧ Reps O H l vs
  | .ro l, v => ∃ a vs, v = .ref a ∧ RoAt C O H a vs ∧ Reps O H l vs
  | .obj c fs, v => ∃ a dx fvs, v = .ref a ∧ (¬ O a ∧ H a = some (.ins (C.ga c) dx fvs)) ∧ C.Cl c ∧ RepF O H c fs fvs
  | .rng i j, v => ∃ a, v = .ref a ∧ (¬ O a ∧ H a = some (.rng i j)) ∧ (R62 i ∧ R62 j)
def Reps (O : Addr → Prop) (H : Hp) : List PV → List V → Prop
  | [], vs => vs = []
  | p :: ps, vs => ∃ v r, vs = v :: r ∧ Rep O H p v ∧ Reps O H ps r
def RepF (O : Addr → Prop) (H : Hp) (c : Nat) : List (Nat × PV) → List (Str × V) → Prop
  | [], fs => fs = []
  | (k, p) :: r, fs => ∃ s v t, fs = (s, v) :: t ∧ (C.nm k = some s ∧ NoAttr C.K (C.ga c) s) ∧ Rep O H p v ∧ RepF O H c r t
end
/-- what is frozen in (O, H) is so in (O', H') -/
def Ext (O : Addr → Prop) (H : Hp) (O' : Addr → Prop) (H' : Hp) : Prop := ∀ a x, ¬ O a → H a = some x → ¬ O' a ∧ H' a = some x
variable {C}
theorem Ext.refl (O : Addr → Prop) (H : Hp) : Ext O H O H := fun _ _ h e => ⟨h, e⟩
theorem Ext.trans {O O1 O2 : Addr → Prop} {H H1 H2 : Hp} (a : Ext O H O1 H1) (b : Ext O1 H1 O2 H2) : Ext O H O2 H2 := fun c x h e => b c x (a c x h e).1 (a c x h e).2
theorem Ext.same {O : Addr → Prop} {H H' : Hp} (h : Same H H') : Ext O H O H' := fun a x n e => ⟨n, h a x e⟩
theorem TupAt.ext {O O' : Addr → Prop} {H H' : Hp} (e : Ext O H O' H') {a : Addr} {vs : List V} (h : TupAt C O H a vs) : TupAt C O' H' a vs := by
  rcases h with h | h
  · exact .inl (e a _ h.1 h.2)
  · exact .inr h
theorem RoAt.ext {O O' : Addr → Prop} {H H' : Hp} (e : Ext O H O' H') {a : Addr} {vs : List V} (h : RoAt C O H a vs) : RoAt C O' H' a vs := by
  rcases h with ⟨n, h⟩ | h
  · rcases h with h | ⟨o, h⟩
    · exact .inl ⟨(e a _ n h).1, .inl (e a _ n h).2⟩
    · exact .inl ⟨(e a _ n h).1, .inr ⟨o, (e a _ n h).2⟩⟩
  · exact .inr h
mutual
theorem Rep.ext {O O' : Addr → Prop} {H H' : Hp} (e : Ext O H O' H') : ∀ {p : PV} {v : V}, Rep C O H p v → Rep C O' H' p v
  | .int i, v, h => h
  | .bl b, v, h => h
  | .non, v, h => h
  | .str s, v, h => h
  | .tup l, v, h => by obtain ⟨a, vs, rfl, h1, h2⟩ := h; exact ⟨a, vs, rfl, h1.ext e, Reps.ext e h2⟩
  | .lst l, v, h => by obtain ⟨a, vs, rfl, h1, h2⟩ := h; exact ⟨a, vs, rfl, e a _ h1.1 h1.2, Reps.ext e h2⟩
  | .ro l, v, h => by obtain ⟨a, vs, rfl, h1, h2⟩ := h; exact ⟨a, vs, rfl, h1.ext e, Reps.ext e h2⟩
  | .obj c fs, v, h => by obtain ⟨a, dx, fvs, rfl, h1, h2, h3⟩ := h; exact ⟨a, dx, fvs, rfl, e a _ h1.1 h1.2, h2, RepF.ext e h3⟩
  | .rng i j, v, h => by obtain ⟨a, rfl, h1, h2⟩ := h; exact ⟨a, rfl, e a _ h1.1 h1.2, h2⟩
theorem Reps.ext {O O' : Addr → Prop} {H H' : Hp} (e : Ext O H O' H') : ∀ {p : List PV} {v : List V}, Reps C O H p v → Reps C O' H' p v
  | [], v, h => h
  | p :: ps, v, h => by obtain ⟨x, r, rfl, h1, h2⟩ := h; exact ⟨x, r, rfl, Rep.ext e h1, Reps.ext e h2⟩
theorem RepF.ext {O O' : Addr → Prop} {H H' : Hp} {c : Nat} (e : Ext O H O' H') : ∀ {p : List (Nat × PV)} {v : List (Str × V)}, RepF C O H c p v → RepF C O' H' c p v
  | [], v, h => h
  | (k, p) :: ps, v, h => by obtain ⟨s, x, r, rfl, h0, h1, h2⟩ := h; exact ⟨s, x, r, rfl, h0, Rep.ext e h1, RepF.ext e h2⟩
end
/-! ### lists of values -/
theorem Reps.length {O : Addr → Prop} {H : Hp} : ∀ {ps : List PV} {vs : List V}, Reps C O H ps vs → vs.length = ps.length
  | [], _, h => by cases h; rfl
  | p :: ps, _, h => by obtain ⟨v, r, rfl, _, h⟩ := h; simp [Reps.length h]
theorem Reps.get {O : Addr → Prop} {H : Hp} : ∀ {ps : List PV} {vs : List V} {i : Nat} {p : PV}, Reps C O H ps vs → ps[i]? = some p → ∃ v, vs[i]? = some v ∧ Rep C O H p v
  | [], _, _, _, h, e => by simp at e
  | p :: ps, _, 0, q, h, e => by
    obtain ⟨v, r, rfl, h1, _⟩ := h
    simp at e
    subst e
    exact ⟨v, rfl, h1⟩
  | p :: ps, _, i + 1, q, h, e => by
    obtain ⟨v, r, rfl, _, h2⟩ := h
    simpa using Reps.get h2 (by simpa using e)
theorem Reps.get' {O : Addr → Prop} {H : Hp} : ∀ {ps : List PV} {vs : List V} {i : Nat} {v : V}, Reps C O H ps vs → vs[i]? = some v → ∃ p, ps[i]? = some p ∧ Rep C O H p v
  | [], _, _, _, h, e => by cases h; simp at e
  | p :: ps, _, 0, q, h, e => by
    obtain ⟨v, r, rfl, h1, _⟩ := h
    simp at e
    subst e
    exact ⟨p, rfl, h1⟩
  | p :: ps, _, i + 1, q, h, e => by
    obtain ⟨v, r, rfl, _, h2⟩ := h
    simpa using Reps.get' h2 (by simpa using e)
theorem Reps.append {O : Addr → Prop} {H : Hp} : ∀ {ps qs : List PV} {vs ws : List V}, Reps C O H ps vs → Reps C O H qs ws → Reps C O H (ps ++ qs) (vs ++ ws)
  | [], _, _, _, h, k => by cases h; exact k
  | p :: ps, _, _, _, h, k => by obtain ⟨v, r, rfl, h1, h2⟩ := h; exact ⟨v, _, rfl, h1, Reps.append h2 k⟩
theorem Reps.set {O : Addr → Prop} {H : Hp} {q : PV} {w : V} (hw : Rep C O H q w) : ∀ {ps : List PV} {vs : List V} (i : Nat), Reps C O H ps vs → Reps C O H (ps.set i q) (vs.set i w)
  | [], _, _, h => by cases h; simp [Reps]
  | p :: ps, _, 0, h => by obtain ⟨v, r, rfl, h1, h2⟩ := h; exact ⟨w, r, rfl, hw, h2⟩
  | p :: ps, _, i + 1, h => by obtain ⟨v, r, rfl, h1, h2⟩ := h; exact ⟨v, _, rfl, h1, Reps.set hw i h2⟩
theorem Reps.drop {O : Addr → Prop} {H : Hp} : ∀ {ps : List PV} {vs : List V} (n : Nat), Reps C O H ps vs → Reps C O H (ps.drop n) (vs.drop n)
  | _, _, 0, h => h
  | [], _, n + 1, h => by cases h; simp [Reps]
  | p :: ps, _, n + 1, h => by obtain ⟨v, r, rfl, h1, h2⟩ := h; exact Reps.drop n h2
theorem Reps.take {O : Addr → Prop} {H : Hp} : ∀ {ps : List PV} {vs : List V} (n : Nat), Reps C O H ps vs → Reps C O H (ps.take n) (vs.take n)
  | _, _, 0, h => by simp [Reps]
  | [], _, n + 1, h => by cases h; simp [Reps]
  | p :: ps, _, n + 1, h => by obtain ⟨v, r, rfl, h1, h2⟩ := h; exact ⟨v, _, rfl, h1, Reps.take n h2⟩
theorem Reps.reverse {O : Addr → Prop} {H : Hp} : ∀ {ps : List PV} {vs : List V}, Reps C O H ps vs → Reps C O H ps.reverse vs.reverse
  | [], _, h => by cases h; simp [Reps]
  | p :: ps, _, h => by
    obtain ⟨v, r, rfl, h1, h2⟩ := h
    rw [List.reverse_cons, List.reverse_cons]
    exact Reps.append (Reps.reverse h2) ⟨v, [], rfl, h1, rfl⟩
theorem Reps.flat {O : Addr → Prop} {H : Hp} {ps : List PV} {vs : List V} (h : Reps C O H ps vs) : ∀ n : Nat, Reps C O H (List.replicate n ps).flatten (List.replicate n vs).flatten
  | 0 => by simp [Reps]
  | n + 1 => by
    rw [List.replicate_succ, List.replicate_succ, List.flatten_cons, List.flatten_cons]
    exact Reps.append h (Reps.flat h n)
theorem Reps.eraseIdx {O : Addr → Prop} {H : Hp} : ∀ {ps : List PV} {vs : List V} (i : Nat), Reps C O H ps vs → Reps C O H (ps.eraseIdx i) (vs.eraseIdx i)
  | [], _, _, h => by cases h; simp [Reps]
  | p :: ps, _, 0, h => by obtain ⟨v, r, rfl, h1, h2⟩ := h; exact h2
  | p :: ps, _, i + 1, h => by obtain ⟨v, r, rfl, h1, h2⟩ := h; exact ⟨v, _, rfl, h1, Reps.eraseIdx i h2⟩
theorem Reps.dropLast {O : Addr → Prop} {H : Hp} {ps : List PV} {vs : List V} (h : Reps C O H ps vs) : Reps C O H ps.dropLast vs.dropLast := by
  rw [List.dropLast_eq_take, List.dropLast_eq_take, h.length]
  exact h.take _
theorem Reps.ints {O : Addr → Prop} {H : Hp} : ∀ (ns : List Int), Reps C O H (ns.map .int) (ns.map V.int)
  | [] => rfl
  | n :: ns => ⟨_, _, rfl, rfl, Reps.ints ns⟩
theorem intsOf_eq : ∀ {l : List PV} {ns : List Int}, intsOf l = some ns → l = ns.map .int
  | [], ns, h => by cases h; rfl
  | .int i :: r, ns, h => by
    simp only [intsOf, Option.map_eq_some_iff] at h
    obtain ⟨m, h1, rfl⟩ := h
    rw [intsOf_eq h1]; rfl
  | .bl _ :: _, _, h => by cases h
  | .non :: _, _, h => by cases h
  | .str _ :: _, _, h => by cases h
  | .tup _ :: _, _, h => by cases h
  | .lst _ :: _, _, h => by cases h
  | .ro _ :: _, _, h => by cases h
  | .obj _ _ :: _, _, h => by cases h
  | .rng _ _ :: _, _, h => by cases h
theorem blsOf_eq : ∀ {l : List PV} {ns : List Bool}, blsOf l = some ns → l = ns.map .bl
  | [], ns, h => by cases h; rfl
  | .bl i :: r, ns, h => by
    simp only [blsOf, Option.map_eq_some_iff] at h
    obtain ⟨m, h1, rfl⟩ := h
    rw [blsOf_eq h1]; rfl
  | .int _ :: _, _, h => by cases h
  | .non :: _, _, h => by cases h
  | .str _ :: _, _, h => by cases h
  | .tup _ :: _, _, h => by cases h
  | .lst _ :: _, _, h => by cases h
  | .ro _ :: _, _, h => by cases h
  | .obj _ _ :: _, _, h => by cases h
  | .rng _ _ :: _, _, h => by cases h
theorem Reps.of_ints {O : Addr → Prop} {H : Hp} : ∀ {ns : List Int} {vs : List V}, Reps C O H (ns.map .int) vs → vs = ns.map V.int
  | [], _, h => h
  | n :: ns, _, h => by obtain ⟨v, r, rfl, h1, h2⟩ := h; cases h1; rw [Reps.of_ints h2]; rfl
theorem Reps.of_bls {O : Addr → Prop} {H : Hp} : ∀ {ns : List Bool} {vs : List V}, Reps C O H (ns.map .bl) vs → vs = ns.map V.bl
  | [], _, h => h
  | n :: ns, _, h => by obtain ⟨v, r, rfl, h1, h2⟩ := h; cases h1; rw [Reps.of_bls h2]; rfl
theorem rd0 {a : Addr} {u : HO} (h : Rd Hp0 a u) : False := by
  rcases h with h | ⟨o, h⟩ <;> cases h
theorem sqT_of {O : Addr → Prop} {H : Hp} {a : Addr} {vs : List V} (h : TupAt C O H a vs) : SqT C.K H a vs := by
  rcases h with ⟨_, h⟩ | h
  · exact .inl (.inl h)
  · rcases h with h | h
    · exact (rd0 h).elim
    · exact .inr h
theorem sqL_of {O : Addr → Prop} {H : Hp} {a : Addr} {vs : List V} (h : RoAt C O H a vs) : SqL C.K H a vs := by
  rcases h with ⟨_, h⟩ | h
  · exact .inl h
  · rcases h with h | h
    · exact (rd0 h).elim
    · exact .inr h
/-! ### what is owned -/
variable (C)
def OFR (O : Addr → Prop) (H : Hp) : OF → V → List Addr → Prop
  | .fz p, v, fp => Rep C O H p v ∧ fp = []
  | .lst l, v, fp => ∃ a vs, v = .ref a ∧ H a = some (.lst vs) ∧ Reps C O H l vs ∧ fp = [a]
def OFs (O : Addr → Prop) (H : Hp) (c : Nat) : List (Nat × OF) → List (Str × V) → List Addr → Prop
  | [], fs, fp => fs = [] ∧ fp = []
  | (k, x) :: r, fs, fp => ∃ s v t f1 f2, fs = (s, v) :: t ∧ fp = f1 ++ f2 ∧ (C.nm k = some s ∧ NoAttr C.K (C.ga c) s) ∧ OFR C O H x v f1 ∧ OFs O H c r t f2
def OVR (O : Addr → Prop) (H : Hp) : OV → V → List Addr → Prop
  | .fz p, v, fp => Rep C O H p v ∧ fp = []
  | .lst l, v, fp => ∃ a vs, v = .ref a ∧ H a = some (.lst vs) ∧ Reps C O H l vs ∧ fp = [a]
  | .obj c fs, v, fp => ∃ a dx fvs f1, v = .ref a ∧ H a = some (.ins (C.ga c) dx fvs) ∧ C.Cl c ∧ OFs C O H c fs fvs f1 ∧ fp = a :: f1
/-- borrowed: frozen, or a list that someone owns -/
def BoR (O : Addr → Prop) (H : Hp) : OV → V → List Addr → Prop
  | .fz p, v, fp => (Rep C O H p v ∧ fp = []) ∨ (∃ l, p = .lst l ∧ OVR C O H (.lst l) v fp)
  | .lst l, v, fp => OVR C O H (.lst l) v fp
  | .obj c fs, v, fp => OVR C O H (.obj c fs) v fp
def isFz : OV → Bool
  | .fz _ => true
  | _ => false
def SlR (O : Addr → Prop) (H : Hp) : Slot → Option V → List Addr → Prop
  | .u, _, fp => fp = []
  | .fz p, x, fp => ∃ v, x = some v ∧ Rep C O H p v ∧ fp = []
  | .ow t, x, fp => ∃ v, x = some v ∧ OVR C O H t v fp ∧ isFz t = false
  | .io t, x, fp => ∃ v, x = some v ∧ OVR C O H t v fp ∧ isFz t = false
  | .bo t, x, fp => ∃ v, x = some v ∧ BoR C O H t v fp
variable {C}
/-- (O, H) to (O', H'), what fp has stands -/
def ExtW (O : Addr → Prop) (H : Hp) (O' : Addr → Prop) (H' : Hp) (fp : List Addr) : Prop := Ext O H O' H' ∧ ∀ a x, a ∈ fp → H a = some x → H' a = some x
theorem OFR.ext {O O' : Addr → Prop} {H H' : Hp} {fp : List Addr} (e : ExtW O H O' H' fp) : ∀ {x : OF} {v : V}, OFR C O H x v fp → OFR C O' H' x v fp
  | .fz p, v, h => ⟨h.1.ext e.1, h.2⟩
  | .lst l, v, h => by
    obtain ⟨a, vs, rfl, h1, h2, rfl⟩ := h
    exact ⟨a, vs, rfl, e.2 a _ (by simp) h1, h2.ext e.1, rfl⟩
theorem OFs.ext {O O' : Addr → Prop} {H H' : Hp} {c : Nat} : ∀ {fs : List (Nat × OF)} {vs : List (Str × V)} {fp : List Addr}, ExtW O H O' H' fp → OFs C O H c fs vs fp → OFs C O' H' c fs vs fp
  | [], _, _, _, h => h
  | (k, x) :: r, _, _, e, h => by
    obtain ⟨s, v, t, f1, f2, rfl, rfl, h0, h1, h2⟩ := h
    exact ⟨s, v, t, f1, f2, rfl, rfl, h0, h1.ext ⟨e.1, fun a x m => e.2 a x (by simp [m])⟩, OFs.ext ⟨e.1, fun a x m => e.2 a x (by simp [m])⟩ h2⟩
theorem OVR.ext {O O' : Addr → Prop} {H H' : Hp} {fp : List Addr} (e : ExtW O H O' H' fp) : ∀ {t : OV} {v : V}, OVR C O H t v fp → OVR C O' H' t v fp
  | .fz p, v, h => ⟨h.1.ext e.1, h.2⟩
  | .lst l, v, h => by
    obtain ⟨a, vs, rfl, h1, h2, rfl⟩ := h
    exact ⟨a, vs, rfl, e.2 a _ (by simp) h1, h2.ext e.1, rfl⟩
  | .obj c fs, v, h => by
    obtain ⟨a, dx, fvs, f1, rfl, h1, h2, h3, rfl⟩ := h
    exact ⟨a, dx, fvs, f1, rfl, e.2 a _ (by simp) h1, h2, h3.ext ⟨e.1, fun b x m => e.2 b x (by simp [m])⟩, rfl⟩
theorem BoR.ext {O O' : Addr → Prop} {H H' : Hp} {fp : List Addr} (e : ExtW O H O' H' fp) : ∀ {t : OV} {v : V}, BoR C O H t v fp → BoR C O' H' t v fp
  | .fz p, v, h => by
    rcases h with ⟨h1, h2⟩ | ⟨l, rfl, h⟩
    · exact .inl ⟨h1.ext e.1, h2⟩
    · exact .inr ⟨l, rfl, OVR.ext e h⟩
  | .lst l, v, h => OVR.ext (t := .lst l) e h
  | .obj c fs, v, h => OVR.ext (t := .obj c fs) e h
theorem SlR.ext {O O' : Addr → Prop} {H H' : Hp} {fp : List Addr} (e : ExtW O H O' H' fp) : ∀ {s : Slot} {x : Option V}, SlR C O H s x fp → SlR C O' H' s x fp
  | .u, x, h => h
  | .fz p, x, h => by obtain ⟨v, rfl, h1, h2⟩ := h; exact ⟨v, rfl, h1.ext e.1, h2⟩
  | .ow t, x, h => by obtain ⟨v, rfl, h1, h2⟩ := h; exact ⟨v, rfl, h1.ext e, h2⟩
  | .io t, x, h => by obtain ⟨v, rfl, h1, h2⟩ := h; exact ⟨v, rfl, h1.ext e, h2⟩
  | .bo t, x, h => by obtain ⟨v, rfl, h1⟩ := h; exact ⟨v, rfl, h1.ext e⟩
theorem ExtW.same {O : Addr → Prop} {H H' : Hp} {fp : List Addr} (h : Same H H') : ExtW O H O H' fp := ⟨Ext.same h, fun a x _ e => h a x e⟩
/-! ### the state of a body -/
/-- what a call came with: the heap, what is owned there, what it may change -/
structure CC where
  H0 : Hp
  O0 : Addr → Prop
  io : Nat → Addr → Prop
  Z : Addr → Prop
  v0 : Nat → Option V
def isOw : Slot → Bool
  | .ow _ => true
  | _ => false
def isIo : Slot → Bool
  | .io _ => true
  | _ => false
structure SI (C : Cn) (cc : CC) (O : Addr → Prop) (env : Env) (σ : L2.St) (H : Hp) (fp : Nat → List Addr) : Prop where
  len : env.length = σ.length
  sl : ∀ i s x, env[i]? = some s → σ[i]? = some x → SlR C O H s x (fp i)
  nd : ∀ i, (fp i).Nodup
  dis : ∀ i j a, i ≠ j → a ∈ fp i → a ∉ fp j
  inO : ∀ i a, a ∈ fp i → O a
  dom : ∀ a, O a → H a ≠ none
  d0 : ∀ a, cc.O0 a → cc.H0 a ≠ none
  up : ∀ a, cc.O0 a → O a
  fr1 : ∀ a x, ¬ cc.O0 a → cc.H0 a = some x → ¬ O a ∧ H a = some x
  fr2 : ∀ a x, cc.O0 a → (∀ i, ¬ cc.io i a) → cc.H0 a = some x → H a = some x
  new : ∀ i s a, env[i]? = some s → isOw s = true → a ∈ fp i → cc.H0 a = none
  ios : ∀ i s a, env[i]? = some s → isIo s = true → a ∈ fp i → cc.io i a ∨ cc.H0 a = none
  out : ∀ i, env.length ≤ i → fp i = []
  z : ∀ i a, a ∈ fp i → cc.Z a
  i0 : ∀ i s, env[i]? = some s → isIo s = true → σ[i]? = some (cc.v0 i)
section
variable {cc : CC} {O : Addr → Prop} {env : Env} {σ : L2.St} {H H' : Hp} {fp : Nat → List Addr}
theorem SI.same (I : SI C cc O env σ H fp) (h : Same H H') : SI C cc O env σ H' fp where
  len := I.len
  sl := fun i s x e1 e2 => (I.sl i s x e1 e2).ext (ExtW.same h)
  nd := I.nd
  dis := I.dis
  inO := I.inO
  dom := fun a o => by
    cases e : H a with
    | none => exact (I.dom a o e).elim
    | some x => rw [h a x e]; simp
  d0 := I.d0
  up := I.up
  fr1 := fun a x n e => ⟨(I.fr1 a x n e).1, h _ _ (I.fr1 a x n e).2⟩
  fr2 := fun a x n m e => h _ _ (I.fr2 a x n m e)
  new := I.new
  ios := I.ios
  out := I.out
  z := I.z
  i0 := I.i0
theorem SI.nO (I : SI C cc O env σ H fp) {a : Addr} (h : H a = none) : ¬ O a := fun o => I.dom a o h
end
end
end Lh
/-! E3: how the state of a body changes. -/
namespace Lh
open PySem PySem.Spec PyProof.Rows L2
theorem Reps.ofx {C : Cn} {O : Addr → Prop} {H : Hp} {vs : List V} (h : Reps C O H [] vs) : vs = [] := h
/-! ### freezing -/
section
variable {C : Cn} {O O' : Addr → Prop} {H : Hp}
theorem ext_sub (h : ∀ a, O' a → O a) : Ext O H O' H := fun a x n e => ⟨fun o => n (h a o), e⟩
theorem OFR.frz {x : OF} {v : V} {fp : List Addr} (h : OFR C O H x v fp) (e : Ext O H O' H) (n : ∀ a ∈ fp, ¬ O' a) : Rep C O' H (ofFz x) v := by
  cases x with
  | fz p => exact h.1.ext e
  | lst l => obtain ⟨a, vs, rfl, h1, h2, rfl⟩ := h; exact ⟨a, vs, rfl, ⟨n a (by simp), h1⟩, h2.ext e⟩
theorem OFs.frz {c : Nat} : ∀ {fs : List (Nat × OF)} {vs : List (Str × V)} {fp : List Addr}, OFs C O H c fs vs fp → Ext O H O' H → (∀ a ∈ fp, ¬ O' a) → RepF C O' H c (fs.map fun q => (q.1, ofFz q.2)) vs
  | [], _, _, h, _, _ => h.1
  | (k, x) :: r, _, _, h, e, n => by
    obtain ⟨s, v, t, f1, f2, rfl, rfl, h0, h1, h2⟩ := h
    exact ⟨s, v, t, rfl, h0, h1.frz e fun a m => n a (by simp [m]), OFs.frz h2 e fun a m => n a (by simp [m])⟩
theorem OVR.frz {t : OV} {v : V} {fp : List Addr} (h : OVR C O H t v fp) (e : Ext O H O' H) (n : ∀ a ∈ fp, ¬ O' a) : Rep C O' H (frzO t) v := by
  cases t with
  | fz p => exact h.1.ext e
  | lst l => obtain ⟨a, vs, rfl, h1, h2, rfl⟩ := h; exact ⟨a, vs, rfl, ⟨n a (by simp), h1⟩, h2.ext e⟩
  | obj c fs => obtain ⟨a, dx, fvs, f1, rfl, h1, h2, h3, rfl⟩ := h; exact ⟨a, dx, fvs, rfl, ⟨n a (by simp), h1⟩, h2, h3.frz e fun b m => n b (by simp [m])⟩
/-- what a footprint names is there -/
theorem OFR.mem {x : OF} {v : V} {fp : List Addr} (h : OFR C O H x v fp) : ∀ a ∈ fp, H a ≠ none := by
  cases x with
  | fz p => rw [h.2]; simp
  | lst l => obtain ⟨a, vs, rfl, h1, h2, rfl⟩ := h; simp [h1]
theorem OFs.mem {c : Nat} : ∀ {fs : List (Nat × OF)} {vs : List (Str × V)} {fp : List Addr}, OFs C O H c fs vs fp → ∀ a ∈ fp, H a ≠ none
  | [], _, _, h => by rw [h.2]; simp
  | (k, x) :: r, _, _, h => by
    obtain ⟨s, v, t, f1, f2, rfl, rfl, h0, h1, h2⟩ := h
    intro a m
    rcases List.mem_append.mp m with m | m
    · exact h1.mem a m
    · exact OFs.mem h2 a m
theorem OVR.mem {t : OV} {v : V} {fp : List Addr} (h : OVR C O H t v fp) : ∀ a ∈ fp, H a ≠ none := by
  cases t with
  | fz p => rw [h.2]; simp
  | lst l => obtain ⟨a, vs, rfl, h1, h2, rfl⟩ := h; simp [h1]
  | obj c fs =>
    obtain ⟨a, dx, fvs, f1, rfl, h1, h2, h3, rfl⟩ := h
    intro b m
    rcases List.mem_cons.mp m with rfl | m
    · rw [h1]; simp
    · exact h3.mem b m
end
/-! ### the slots' footprints -/
def upF (fp : Nat → List Addr) (i : Nat) (f : List Addr) : Nat → List Addr := fun k => if k = i then f else fp k
theorem upF_same {fp : Nat → List Addr} {i : Nat} {f : List Addr} : upF fp i f i = f := by simp [upF]
theorem upF_ne {fp : Nat → List Addr} {i k : Nat} {f : List Addr} (h : k ≠ i) : upF fp i f k = fp k := by simp [upF, h]
section
variable {C : Cn} {cc : CC} {O : Addr → Prop} {env : Env} {σ : L2.St} {H H' : Hp} {fp : Nat → List Addr}
theorem SI.h0 (I : SI C cc O env σ H fp) {a : Addr} (h : H a = none) : cc.H0 a = none := by
  cases e : cc.H0 a with
  | none => rfl
  | some x =>
    by_cases o : cc.O0 a
    · exact (I.dom a (I.up a o) h).elim
    · rw [(I.fr1 a x o e).2] at h; cases h
/-- slot i gets something whose footprint is f: new, or of no other slot -/
theorem SI.put (I : SI C cc O env σ H fp) {i : Nat} {s : Slot} {v : V} {f : List Addr} (hi : i < env.length) (h : SlR C O H s (some v) f) (hn : f.Nodup) (hd : ∀ j a, j ≠ i → a ∈ fp j → a ∉ f) (hO : ∀ a ∈ f, O a)
    (hw : isOw s = true → ∀ a ∈ f, cc.H0 a = none) (hio : isIo s = false) (hZ : ∀ a ∈ f, cc.Z a) : SI C cc O (env.set i s) (σ.set i (some v)) H (upF fp i f) where
  len := by rw [List.length_set, List.length_set]; exact I.len
  sl := fun k t x e1 e2 => by
    by_cases hk : k = i
    · subst hk
      rw [List.getElem?_set_self hi] at e1
      rw [List.getElem?_set_self (by rw [← I.len]; exact hi)] at e2
      cases e1; cases e2
      rw [upF_same]
      exact h
    · rw [List.getElem?_set_ne (Ne.symm hk)] at e1 e2
      rw [upF_ne hk]
      exact I.sl k t x e1 e2
  nd := fun k => by
    by_cases hk : k = i
    · subst hk; rw [upF_same]; exact hn
    · rw [upF_ne hk]; exact I.nd k
  dis := fun k j a ne hk hj => by
    by_cases h1 : k = i
    · subst h1
      rw [upF_same] at hk
      rw [upF_ne (Ne.symm ne)] at hj
      exact hd j a (Ne.symm ne) hj hk
    · rw [upF_ne h1] at hk
      by_cases h2 : j = i
      · subst h2
        rw [upF_same] at hj
        exact hd k a h1 hk hj
      · rw [upF_ne h2] at hj
        exact I.dis k j a ne hk hj
  inO := fun k a hk => by
    by_cases h1 : k = i
    · subst h1; rw [upF_same] at hk; exact hO a hk
    · rw [upF_ne h1] at hk; exact I.inO k a hk
  dom := I.dom
  d0 := I.d0
  up := I.up
  fr1 := I.fr1
  fr2 := I.fr2
  new := fun k t a e w hk => by
    by_cases h1 : k = i
    · subst h1
      rw [List.getElem?_set_self hi] at e
      cases e
      rw [upF_same] at hk
      exact hw w a hk
    · rw [List.getElem?_set_ne (Ne.symm h1)] at e
      rw [upF_ne h1] at hk
      exact I.new k t a e w hk
  ios := fun k t a e w hk => by
    by_cases h1 : k = i
    · subst h1
      rw [List.getElem?_set_self hi] at e
      cases e
      rw [upF_same] at hk
      rw [hio] at w; cases w
    · rw [List.getElem?_set_ne (Ne.symm h1)] at e
      rw [upF_ne h1] at hk
      exact I.ios k t a e w hk
  out := fun k hk => by
    rw [List.length_set] at hk
    rw [upF_ne (by omega)]
    exact I.out k hk
  z := fun k a m => by
    by_cases h1 : k = i
    · subst h1; rw [upF_same] at m; exact hZ a m
    · rw [upF_ne h1] at m; exact I.z k a m
  i0 := fun k t e w => by
    by_cases h1 : k = i
    · subst h1
      rw [List.getElem?_set_self hi] at e
      cases e
      rw [hio] at w; cases w
    · rw [List.getElem?_set_ne (Ne.symm h1)] at e ⊢
      exact I.i0 k t e w
theorem SI.putFz (I : SI C cc O env σ H fp) {i : Nat} {p : PV} {v : V} (hi : i < env.length) (h : Rep C O H p v) : SI C cc O (env.set i (.fz p)) (σ.set i (some v)) H (upF fp i []) :=
  I.put hi ⟨v, rfl, h, rfl⟩ List.nodup_nil (fun _ _ _ _ => by simp) (by simp) (fun z => nomatch z) rfl (by simp)
/-- the state is made anew: O grows by new addresses, the heap changes at ch alone; each slot is as it was (and has nothing of ch) or told anew -/
theorem SI.remake (I : SI C cc O env σ H fp) {O1 : Addr → Prop} {env' : Env} {fp' : Nat → List Addr} {ch : Addr → Prop} (hO : ∀ a, O a → O1 a) (hO1 : ∀ a, O1 a → O a ∨ H a = none) (dom1 : ∀ a, O1 a → H' a ≠ none)
    (keep : ∀ b x, ¬ ch b → H b = some x → H' b = some x) (chI : ∀ b, ch b → (∃ i, cc.io i b) ∨ cc.H0 b = none) (chO : ∀ b, ch b → O b) (hl : env'.length = env.length)
    (sl : ∀ (k : Nat) (s : Slot) (x : Option V), env'[k]? = some s → σ[k]? = some x → (env[k]? = some s ∧ fp' k = fp k ∧ ∀ a ∈ fp k, ¬ ch a) ∨ SlR C O1 H' s x (fp' k))
    (kind : ∀ (k : Nat) (s : Slot), env'[k]? = some s → ∃ (s0 : Slot), env[k]? = some s0 ∧ (isOw s = true → isOw s0 = true) ∧ (isIo s = true → isIo s0 = true))
    (sub : ∀ k a, a ∈ fp' k → a ∈ fp k ∨ H a = none) (nd : ∀ k, (fp' k).Nodup) (dis : ∀ k j a, k ≠ j → a ∈ fp' k → a ∉ fp' j) (inO : ∀ k a, a ∈ fp' k → O1 a) (out : ∀ k, env.length ≤ k → fp' k = []) (hZ : ∀ k a, a ∈ fp' k → cc.Z a) : SI C cc O1 env' σ H' fp' where
  len := by rw [hl]; exact I.len
  sl := fun k s x e1 e2 => by
    rcases sl k s x e1 e2 with ⟨h1, h2, h3⟩ | h
    · rw [h2]
      refine (I.sl k s x h1 e2).ext ⟨fun a y n e => ⟨fun o => ?_, keep a y (fun c => n (chO a c)) e⟩, fun a y m e => keep a y (h3 a m) e⟩
      rcases hO1 a o with o | o
      · exact n o
      · rw [o] at e; cases e
    · exact h
  nd := nd
  dis := dis
  inO := inO
  dom := dom1
  d0 := I.d0
  up := fun a h => hO a (I.up a h)
  fr1 := fun a x n e => by
    have h := I.fr1 a x n e
    refine ⟨fun o => ?_, keep a x (fun c => h.1 (chO a c)) h.2⟩
    rcases hO1 a o with o | o
    · exact h.1 o
    · rw [h.2] at o; cases o
  fr2 := fun a x o n e => keep a x (fun c => by
    rcases chI a c with ⟨i, z⟩ | z
    · exact n i z
    · rw [z] at e; cases e) (I.fr2 a x o n e)
  new := fun k s a e w m => by
    obtain ⟨s0, h0, h1, _⟩ := kind k s e
    rcases sub k a m with m | m
    · exact I.new k s0 a h0 (h1 w) m
    · exact I.h0 m
  ios := fun k s a e w m => by
    obtain ⟨s0, h0, _, h1⟩ := kind k s e
    rcases sub k a m with m | m
    · exact I.ios k s0 a h0 (h1 w) m
    · exact .inr (I.h0 m)
  out := fun k h => out k (by rw [← hl]; exact h)
  z := hZ
  i0 := fun k s e w => by
    obtain ⟨s0, h0, _, h1⟩ := kind k s e
    exact I.i0 k s0 h0 (h1 w)
/-- new things are owned -/
theorem SI.grow (I : SI C cc O env σ H fp) (h : Same H H') {f : List Addr} (hf : ∀ a ∈ f, H a = none) (hf' : ∀ a ∈ f, H' a ≠ none) : SI C cc (fun a => O a ∨ a ∈ f) env σ H' fp :=
  I.remake (ch := fun _ => False) (fun a o => .inl o) (fun a o => o.imp id (hf a)) (fun a o => by
      rcases o with o | o
      · cases e : H a with
        | none => exact (I.dom a o e).elim
        | some x => rw [h a x e]; simp
      · exact hf' a o) (fun b x _ e => h b x e) (fun _ z => z.elim) (fun _ z => z.elim) rfl (fun k s x e1 _ => .inl ⟨e1, rfl, fun _ _ z => z⟩) (fun k s e => ⟨s, e, id, id⟩) (fun k a m => .inl m) I.nd I.dis (fun k a m => .inl (I.inO k a m)) I.out I.z
theorem grow_ext (I : SI C cc O env σ H fp) (h : Same H H') {f : List Addr} (hf : ∀ a ∈ f, H a = none) : Ext O H (fun a => O a ∨ a ∈ f) H' := fun a x n e => ⟨fun o => o.elim n (fun o => by rw [hf a o] at e; cases e), h a x e⟩
theorem putW_kind {s : Slot} {t : OV} (h : isOw s = true ∨ isIo s = true) : isOw (putW s t) = isOw s ∧ isIo (putW s t) = isIo s := by
  cases s with
  | ow _ => exact ⟨rfl, rfl⟩
  | io _ => exact ⟨rfl, rfl⟩
  | u => rcases h with h | h <;> cases h
  | fz p => rcases h with h | h <;> cases h
  | bo p => rcases h with h | h <;> cases h
/-- what slot i owns changes -/
theorem SI.change (I : SI C cc O env σ H fp) {i : Nat} {s : Slot} {t : OV} {v : V} {f : List Addr} (hs : env[i]? = some s) (hk : isOw s = true ∨ isIo s = true) (hv : σ[i]? = some (some v)) (keep : ∀ b x, b ∉ fp i → H b = some x → H' b = some x)
    (mem : ∀ b ∈ fp i, H' b ≠ none) (h : OVR C O H' t v f) (hz : isFz t = false) (hn : f.Nodup) (hf : ∀ a ∈ f, a ∈ fp i ∨ (O a ∧ cc.H0 a = none ∧ ∀ j, a ∉ fp j)) (hZ : ∀ a ∈ f, cc.Z a) : SI C cc O (env.set i (putW s t)) σ H' (upF fp i f) where
  len := by rw [List.length_set]; exact I.len
  sl := fun k s' x e1 e2 => by
    have hi : i < env.length := by
      rcases List.getElem?_eq_some_iff.mp hs with ⟨h, _⟩; exact h
    by_cases hki : k = i
    · subst hki
      rw [List.getElem?_set_self hi] at e1
      rw [hv] at e2
      cases e1; cases e2
      rw [upF_same]
      cases s with
      | ow _ => exact ⟨v, rfl, h, hz⟩
      | io _ => exact ⟨v, rfl, h, hz⟩
      | u => rcases hk with h | h <;> cases h
      | fz p => rcases hk with h | h <;> cases h
      | bo p => rcases hk with h | h <;> cases h
    · rw [List.getElem?_set_ne (Ne.symm hki)] at e1
      rw [upF_ne hki]
      refine (I.sl k s' x e1 e2).ext ⟨fun a y n e => ⟨n, keep a y (fun m => n (I.inO i a m)) e⟩, fun a y m e => keep a y (I.dis k i a hki m) e⟩
  nd := fun k => by
    by_cases hki : k = i
    · subst hki; rw [upF_same]; exact hn
    · rw [upF_ne hki]; exact I.nd k
  dis := fun k j a ne hk' hj => by
    by_cases h1 : k = i
    · subst h1
      rw [upF_same] at hk'
      rw [upF_ne (Ne.symm ne)] at hj
      rcases hf a hk' with m | m
      · exact I.dis k j a ne m hj
      · exact m.2.2 j hj
    · rw [upF_ne h1] at hk'
      by_cases h2 : j = i
      · subst h2
        rw [upF_same] at hj
        rcases hf a hj with m | m
        · exact I.dis j k a (Ne.symm h1) m hk'
        · exact m.2.2 k hk'
      · rw [upF_ne h2] at hj
        exact I.dis k j a ne hk' hj
  inO := fun k a m => by
    by_cases h1 : k = i
    · subst h1
      rw [upF_same] at m
      rcases hf a m with m | m
      · exact I.inO k a m
      · exact m.1
    · rw [upF_ne h1] at m; exact I.inO k a m
  dom := fun a o => by
    by_cases m : a ∈ fp i
    · exact mem a m
    · cases e : H a with
      | none => exact (I.dom a o e).elim
      | some x => rw [keep a x m e]; simp
  d0 := I.d0
  up := I.up
  fr1 := fun a x n e => ⟨(I.fr1 a x n e).1, keep a x (fun m => (I.fr1 a x n e).1 (I.inO i a m)) (I.fr1 a x n e).2⟩
  fr2 := fun a x o n e => keep a x (fun m => by
    rcases hk with w | w
    · have := I.new i s a hs w m
      rw [this] at e; cases e
    · rcases I.ios i s a hs w m with z | z
      · exact n i z
      · rw [z] at e; cases e) (I.fr2 a x o n e)
  new := fun k s' a e w m => by
    have hi : i < env.length := by
      rcases List.getElem?_eq_some_iff.mp hs with ⟨h, _⟩; exact h
    by_cases h1 : k = i
    · subst h1
      rw [List.getElem?_set_self hi] at e
      cases e
      rw [upF_same] at m
      rcases hf a m with m | m
      · exact I.new k s a hs (by rw [← (putW_kind hk).1]; exact w) m
      · exact m.2.1
    · rw [List.getElem?_set_ne (Ne.symm h1)] at e
      rw [upF_ne h1] at m
      exact I.new k s' a e w m
  ios := fun k s' a e w m => by
    have hi : i < env.length := by
      rcases List.getElem?_eq_some_iff.mp hs with ⟨h, _⟩; exact h
    by_cases h1 : k = i
    · subst h1
      rw [List.getElem?_set_self hi] at e
      cases e
      rw [upF_same] at m
      rcases hf a m with m | m
      · exact I.ios k s a hs (by rw [← (putW_kind hk).2]; exact w) m
      · exact .inr m.2.1
    · rw [List.getElem?_set_ne (Ne.symm h1)] at e
      rw [upF_ne h1] at m
      exact I.ios k s' a e w m
  out := fun k h => by
    rw [List.length_set] at h
    have hi : i < env.length := by
      rcases List.getElem?_eq_some_iff.mp hs with ⟨h, _⟩; exact h
    rw [upF_ne (by omega)]
    exact I.out k h
  z := fun k a m => by
    by_cases h1 : k = i
    · subst h1; rw [upF_same] at m; exact hZ a m
    · rw [upF_ne h1] at m; exact I.z k a m
  i0 := fun k s' e w => by
    have hi : i < env.length := by
      rcases List.getElem?_eq_some_iff.mp hs with ⟨h, _⟩; exact h
    by_cases h1 : k = i
    · subst h1
      rw [List.getElem?_set_self hi] at e
      cases e
      exact I.i0 k s hs (by rw [← (putW_kind hk).2]; exact w)
    · rw [List.getElem?_set_ne (Ne.symm h1)] at e
      exact I.i0 k s' e w
/-- slot i is frozen -/
theorem SI.frz (I : SI C cc O env σ H fp) {i : Nat} {t : OV} (hs : env[i]? = some (.ow t)) : SI C cc (fun a => O a ∧ a ∉ fp i) (env.set i (.fz (frzO t))) σ H (upF fp i []) where
  len := by rw [List.length_set]; exact I.len
  sl := fun k s' x e1 e2 => by
    have hi : i < env.length := by
      rcases List.getElem?_eq_some_iff.mp hs with ⟨h, _⟩; exact h
    have ex : Ext O H (fun a => O a ∧ a ∉ fp i) H := fun a x n e => ⟨fun o => n o.1, e⟩
    by_cases hki : k = i
    · subst hki
      rw [List.getElem?_set_self hi] at e1
      cases e1
      obtain ⟨v, rfl, h, _⟩ := I.sl k _ x hs e2
      rw [upF_same]
      exact ⟨v, rfl, h.frz ex fun a m o => o.2 m, rfl⟩
    · rw [List.getElem?_set_ne (Ne.symm hki)] at e1
      rw [upF_ne hki]
      exact (I.sl k s' x e1 e2).ext ⟨ex, fun a y m e => e⟩
  nd := fun k => by
    by_cases hki : k = i
    · subst hki; rw [upF_same]; exact List.nodup_nil
    · rw [upF_ne hki]; exact I.nd k
  dis := fun k j a ne hk' hj => by
    by_cases h1 : k = i
    · subst h1
      rw [upF_same] at hk'
      cases hk'
    · rw [upF_ne h1] at hk'
      by_cases h2 : j = i
      · subst h2
        rw [upF_same] at hj
        cases hj
      · rw [upF_ne h2] at hj
        exact I.dis k j a ne hk' hj
  inO := fun k a m => by
    by_cases h1 : k = i
    · subst h1
      rw [upF_same] at m
      cases m
    · rw [upF_ne h1] at m; exact ⟨I.inO k a m, I.dis k i a h1 m⟩
  dom := fun a o => I.dom a o.1
  d0 := I.d0
  up := fun a o => ⟨I.up a o, fun m => I.d0 a o (I.new i _ a hs rfl m)⟩
  fr1 := fun a x n e => ⟨fun o => (I.fr1 a x n e).1 o.1, (I.fr1 a x n e).2⟩
  fr2 := I.fr2
  new := fun k s' a e w m => by
    have hi : i < env.length := by
      rcases List.getElem?_eq_some_iff.mp hs with ⟨h, _⟩; exact h
    by_cases h1 : k = i
    · subst h1
      rw [upF_same] at m
      cases m
    · rw [List.getElem?_set_ne (Ne.symm h1)] at e
      rw [upF_ne h1] at m
      exact I.new k s' a e w m
  ios := fun k s' a e w m => by
    by_cases h1 : k = i
    · subst h1
      rw [upF_same] at m
      cases m
    · rw [List.getElem?_set_ne (Ne.symm h1)] at e
      rw [upF_ne h1] at m
      exact I.ios k s' a e w m
  out := fun k h => by
    rw [List.length_set] at h
    have hi : i < env.length := by
      rcases List.getElem?_eq_some_iff.mp hs with ⟨h, _⟩; exact h
    rw [upF_ne (by omega)]
    exact I.out k h
  z := fun k a m => by
    by_cases h1 : k = i
    · subst h1; rw [upF_same] at m; cases m
    · rw [upF_ne h1] at m; exact I.z k a m
  i0 := fun k s' e w => by
    have hi : i < env.length := by
      rcases List.getElem?_eq_some_iff.mp hs with ⟨h, _⟩; exact h
    by_cases h1 : k = i
    · subst h1
      rw [List.getElem?_set_self hi] at e
      cases e; cases w
    · rw [List.getElem?_set_ne (Ne.symm h1)] at e
      exact I.i0 k s' e w
/-- the footprints lie in O -/
theorem SI.zone (I : SI C cc O env σ H fp) : SI C { cc with Z := O } O env σ H fp := ⟨I.len, I.sl, I.nd, I.dis, I.inO, I.dom, I.d0, I.up, I.fr1, I.fr2, I.new, I.ios, I.out, I.inO, I.i0⟩
/-- a list that no slot has is changed -/
theorem SI.aside (I : SI C cc O env σ H fp) {D : Addr} (hD : ¬ cc.Z D) (hO : O D) (h0 : cc.H0 D = none) (keep : ∀ b x, b ≠ D → H b = some x → H' b = some x) (hd : H' D ≠ none) : SI C cc O env σ H' fp where
  len := I.len
  sl := fun i s x e1 e2 => (I.sl i s x e1 e2).ext ⟨fun a y n e => ⟨n, keep a y (fun z => n (z ▸ hO)) e⟩, fun a y m e => keep a y (fun z => hD (z ▸ I.z i a m)) e⟩
  nd := I.nd
  dis := I.dis
  inO := I.inO
  dom := fun a o => by
    by_cases h : a = D
    · subst h; exact hd
    · cases e : H a with
      | none => exact (I.dom a o e).elim
      | some x => rw [keep a x h e]; simp
  d0 := I.d0
  up := I.up
  fr1 := fun a x n e => ⟨(I.fr1 a x n e).1, keep a x (fun z => by rw [z, h0] at e; cases e) (I.fr1 a x n e).2⟩
  fr2 := fun a x o n e => keep a x (fun z => by rw [z, h0] at e; cases e) (I.fr2 a x o n e)
  new := I.new
  ios := I.ios
  out := I.out
  z := I.z
  i0 := I.i0
end
end Lh
/-! E4: operators on values: what they mean over the heap. -/
namespace Lh
open PySem PySem.Spec PyProof.Rows L2
theorem szl : sizeLine = 16777216 := sizeLine_eq
/-- frozen, or a list that is owned -/
def RepB (C : Cn) (O : Addr → Prop) (H : Hp) (p : PV) (v : V) : Prop := Rep C O H p v ∨ ∃ l a vs, p = .lst l ∧ v = .ref a ∧ H a = some (.lst vs) ∧ Reps C O H l vs
/-- a new list -/
def FrL (C : Cn) (O : Addr → Prop) (H H' : Hp) (p : PV) (v : V) : Prop := ∀ l, p = .lst l → ∃ a vs, v = .ref a ∧ H a = none ∧ H' a = some (.lst vs) ∧ Reps C (fun b => O b ∨ b ∈ [a]) H' l vs
def DomO (O : Addr → Prop) (H : Hp) : Prop := ∀ a, O a → H a ≠ none
section
variable {C : Cn} {O : Addr → Prop} {H H' : Hp}
theorem DomO.same (d : DomO O H) (h : Same H H') : DomO O H' := fun a o => by
  cases e : H a with
  | none => exact (d a o e).elim
  | some x => rw [h a x e]; simp
theorem RepB.ext (e : Same H H') {p : PV} {v : V} (h : RepB C O H p v) : RepB C O H' p v := by
  rcases h with h | ⟨l, a, vs, rfl, rfl, h1, h2⟩
  · exact .inl (h.ext (Ext.same e))
  · exact .inr ⟨l, a, vs, rfl, rfl, e a _ h1, h2.ext (Ext.same e)⟩
theorem RepB.list {l : List PV} {v : V} (h : RepB C O H (.lst l) v) : ∃ a vs, v = .ref a ∧ H a = some (.lst vs) ∧ Reps C O H l vs := by
  rcases h with ⟨a, vs, e, h1, h2⟩ | ⟨l', a, vs, e, e2, h1, h2⟩
  · exact ⟨a, vs, e, h1.2, h2⟩
  · cases e; exact ⟨a, vs, e2, h1, h2⟩
theorem RepB.nl {p : PV} {v : V} (h : RepB C O H p v) (n : ∀ l, p ≠ .lst l) : Rep C O H p v := by
  rcases h with h | ⟨l, a, vs, e, _⟩
  · exact h
  · exact (n l e).elim
theorem same_new {p : Addr} {o : HO} (h : H p = none) : Same H (upd H p o) := fun b x e => by rw [upd_ne (ne_of_none e h)]; exact e
theorem ext_new {p : Addr} {o : HO} (h : H p = none) : Ext O H (fun b => O b ∨ b ∈ [p]) (upd H p o) := fun b x n e =>
  ⟨fun z => z.elim n (fun z => by rw [List.mem_singleton.mp z, h] at e; cases e), same_new h b x e⟩
theorem reps_nil {l : List PV} (h : Reps C O H l []) : l = [] := by
  have := h.length
  cases l with
  | nil => rfl
  | cons _ _ => simp at this
/-- a new list is laid -/
theorem new_list (d : DomO O H) {p : Addr} (h : H p = none) {l : List PV} {vs : List V} (r : Reps C O H l vs) : Rep C O (upd H p (.lst vs)) (.lst l) (.ref p) ∧ FrL C O H (upd H p (.lst vs)) (.lst l) (.ref p) := by
  refine ⟨⟨p, vs, rfl, ⟨fun o => d p o h, upd_same⟩, r.ext (Ext.same (same_new h))⟩, fun l' e => ?_⟩
  cases e
  exact ⟨p, vs, rfl, h, upd_same, r.ext (ext_new h)⟩
theorem new_tup (d : DomO O H) {p : Addr} (h : H p = none) {l : List PV} {vs : List V} (r : Reps C O H l vs) : Rep C O (upd H p (.tup vs)) (.tup l) (.ref p) :=
  ⟨p, vs, rfl, .inl ⟨fun o => d p o h, upd_same⟩, r.ext (Ext.same (same_new h))⟩
theorem frl_no {p : PV} {v : V} (n : ∀ l, p ≠ .lst l) : FrL C O H H' p v := fun l e => (n l e).elim
end
/-- what a value's user wants -/
abbrev Kt (C : Cn) (O : Addr → Prop) (H : Hp) (R : PV → Prop) (Q : VK) : Prop := ∀ p v H', R p → Same H H' → Rep C O H' p v → FrL C O H H' p v → Q v H'
abbrev Kf (C : Cn) (O : Addr → Prop) (H : Hp) (R : PV → Prop) (Q : VK) : Prop := ∀ p v H', R p → Same H H' → Rep C O H' p v → Q v H'
section
variable {C : Cn} {O : Addr → Prop} {H : Hp} {R : PV → Prop} {Q : VK}
theorem Kt.int (k : Kt C O H R Q) {i : Int} (h : R (.int i)) : Q (.int i) H := k _ _ _ h (Same.refl H) rfl (frl_no fun _ z => nomatch z)
theorem Kt.str (k : Kt C O H R Q) {s : List Nat} (h : R (.str s)) : Q (.str ⟨s.toArray⟩) H := k _ _ _ h (Same.refl H) rfl (frl_no fun _ z => nomatch z)
theorem Kf.bl (k : Kf C O H R Q) {b : Bool} (h : R (.bl b)) : Q (.bl b) H := k _ _ _ h (Same.refl H) rfl
theorem Kf.int (k : Kf C O H R Q) {b : Int} (h : R (.int b)) : Q (.int b) H := k _ _ _ h (Same.refl H) rfl
theorem Kf.str (k : Kf C O H R Q) {s : List Nat} (h : R (.str s)) : Q (.str ⟨s.toArray⟩) H := k _ _ _ h (Same.refl H) rfl
theorem Kt.list (k : Kt C O H R Q) (d : DomO O H) {l : List PV} {vs : List V} (h : R (.lst l)) (r : Reps C O H l vs) : ∀ p, H p = none → Q (.ref p) (upd H p (.lst vs)) := fun p hp =>
  k _ _ _ h (same_new hp) (new_list d hp r).1 (new_list d hp r).2
theorem Kt.tup (k : Kt C O H R Q) (d : DomO O H) {l : List PV} {vs : List V} (h : R (.tup l)) (r : Reps C O H l vs) : ∀ p, H p = none → Q (.ref p) (upd H p (.tup vs)) := fun p hp =>
  k _ _ _ h (same_new hp) (new_tup d hp r) (frl_no fun _ z => nomatch z)
theorem Kf.tup (k : Kf C O H R Q) (d : DomO O H) {l : List PV} {vs : List V} (h : R (.tup l)) (r : Reps C O H l vs) : ∀ p, H p = none → Q (.ref p) (upd H p (.tup vs)) := fun p hp =>
  k _ _ _ h (same_new hp) (new_tup d hp r)
theorem Kf.t (k : Kf C O H R Q) : Kt C O H R Q := fun p v H' h1 h2 h3 _ => k p v H' h1 h2 h3
end
/-! ### binary operators -/
def bopOf : BOp → Operator
  | .add => .Add | .sub => .Sub | .mul => .Mult | .fdiv => .FloorDiv | .mod => .Mod | .pow => .Pow
def rStr : R2 := fun x y H Q => ∃ i j, x = .str i ∧ y = .str j ∧ i.length + j.length ≤ sizeLine ∧ Q (.str (i ++ j)) H
def rAdd (K : PySem.W.Frag) : R2 := fun x y H Q => ((rI0 fun i j => .int (i + j)) x y H Q ∨ rStr x y H Q) ∨ rCat x y H Q ∨ rCatA K x y H Q
def rRepS : R2 := fun x y H Q => ∃ z n, x = .str z ∧ y = .int n ∧ (0 ≤ n ∧ n ≤ 1) ∧ Q (.str (if n = 0 then Str.empty else z)) H
theorem op_repS {X : Cx} : OpR X (binaryOp .Mult) rRepS := by
  intro pins s σ H x y v u Q I rx ry h
  obtain ⟨z, n, rfl, rfl, ⟨n0, n1⟩, q⟩ := h
  obtain ⟨t, rfl⟩ := rx
  obtain ⟨t2, rfl⟩ := ry
  rcases (show n = 0 ∨ n = 1 by omega) with e | e
  · subst e
    refine P.mul_str (by decide) (fun h => absurd (by decide) h) (fun h => absurd (by decide) h) ?_
    rw [if_pos (by decide)]
    exact ⟨by decide, ⟨.str Str.empty, H, I.tok _, ⟨_, rfl⟩, q⟩⟩
  · subst e
    refine P.mul_str (by decide) (fun _ h => by cases h) (fun _ h => by cases h) ?_
    rw [if_neg (by decide), if_pos (by simp)]
    exact ⟨.str z, H, I, ⟨_, rfl⟩, q⟩
def rMulA : R2 := fun x y H Q => (rI CMul fun i j => .int (i * j)) x y H Q ∨ (rRep x y H Q ∨ rRepS x y H Q)
def rBin (K : PySem.W.Frag) : BOp → R2
  | .add => rAdd K
  | .sub => rI0 fun i j => .int (i - j)
  | .mul => rMulA
  | .fdiv => rI CDiv fun i j => .int (i / j)
  | .mod => rI (fun _ j => 0 < j) fun i j => .int (i % j)
  | .pow => rI CPow fun i j => .int (i ^ j.toNat)
theorem op_bin {X : Cx} (o : BOp) : OpR X (binaryOp (bopOf o)) (rBin X.K o) := by
  cases o with
  | add => exact (op_add.or op_add_str).or (op_cat.or op_catA)
  | sub => exact op_sub
  | mul => exact op_mul.or (op_rep.or op_repS)
  | fdiv => exact op_fdiv
  | mod => exact op_mod
  | pow => exact op_pow
theorem str_app (s t : List Nat) : (⟨s.toArray⟩ : Str) ++ ⟨t.toArray⟩ = ⟨(s ++ t).toArray⟩ := by
  show Str.append _ _ = _
  simp [Str.append]
theorem str_len (s : List Nat) : (⟨s.toArray⟩ : Str).length = s.length := by simp [Str.length]
theorem opR_ok {C : Cn} {O : Addr → Prop} {H : Hp} {R : PV → Prop} {Q : VK} (o : BOp) {x y : PV} {vx vy : V} (d : DomO O H) (hx : RepB C O H x vx) (hy : RepB C O H y vy) (h : opR o x y R) (k : Kt C O H R Q) : rBin C.K o vx vy H Q := by
  have nl : ∀ {p : PV}, (∀ l, p ≠ .lst l) → ∀ {v}, RepB C O H p v → Rep C O H p v := fun n _ z => z.nl n
  cases o <;> cases x <;> first | exact h.elim | skip
  all_goals cases y <;> first | exact h.elim | skip
  · cases hx.nl (fun _ z => nomatch z); cases hy.nl (fun _ z => nomatch z)
    exact .inl (.inl ⟨_, _, rfl, rfl, k.int h⟩)
  · cases hx.nl (fun _ z => nomatch z); cases hy.nl (fun _ z => nomatch z)
    refine .inl (.inr ⟨_, _, rfl, rfl, ?_, ?_⟩)
    · rw [str_len, str_len, szl]; exact h.1
    · rw [str_app]; exact k.str h.2
  · obtain ⟨a, vs, e, h1, h2⟩ := hx.nl (fun _ z => nomatch z)
    obtain ⟨b, ws, e', h1', h2'⟩ := hy.nl (fun _ z => nomatch z)
    have l1 := h2.length
    have l2 := h2'.length
    refine .inr (.inr ⟨a, b, vs, ws, e, e', sqT_of h1, sqT_of h1', by rw [l1, l2, szl]; exact h.1, fun z => ?_, fun _ z => ?_, fun _ _ => k.tup d h.2 (h2.append h2')⟩)
    · subst z
      refine k _ _ _ h.2 (Same.refl H) ?_ (frl_no fun _ z => nomatch z)
      rw [reps_nil h2]
      exact ⟨b, ws, rfl, h1', h2'⟩
    · subst z
      refine k _ _ _ h.2 (Same.refl H) ?_ (frl_no fun _ z => nomatch z)
      rw [reps_nil h2', List.append_nil]
      exact ⟨a, vs, rfl, h1, h2⟩
  · obtain ⟨a, vs, e, h1, h2⟩ := hx.list
    obtain ⟨b, ws, e', h1', h2'⟩ := hy.list
    exact .inr (.inl ⟨a, b, vs, ws, e, e', h1, h1', by rw [h2.length, h2'.length, szl]; exact h.1, k.list d h.2 (h2.append h2')⟩)
  · cases hx.nl (fun _ z => nomatch z); cases hy.nl (fun _ z => nomatch z)
    exact ⟨_, _, rfl, rfl, k.int h⟩
  · cases hx.nl (fun _ z => nomatch z); cases hy.nl (fun _ z => nomatch z)
    exact .inl ⟨_, _, rfl, rfl, h.1, k.int h.2⟩
  · cases hx.nl (fun _ z => nomatch z); cases hy.nl (fun _ z => nomatch z)
    rename_i s n
    refine .inr (.inr ⟨_, _, rfl, rfl, h.1, ?_⟩)
    have e : (V.str (if n = 0 then Str.empty else ⟨s.toArray⟩)) = V.str ⟨(if n = 0 then ([] : List Nat) else s).toArray⟩ := by
      split <;> rfl
    rw [e]
    exact k _ _ _ h.2 (Same.refl H) rfl (frl_no fun _ z => nomatch z)
  · obtain ⟨a, vs, e, h1, h2⟩ := hx.list
    cases hy.nl (fun _ z => nomatch z)
    exact .inr (.inl ⟨a, _, vs, e, rfl, h1, h.1.1, h.1.2.1, by rw [h2.length, szl]; exact h.1.2.2, k.list d h.2 (h2.flat _)⟩)
  · cases hx.nl (fun _ z => nomatch z); cases hy.nl (fun _ z => nomatch z)
    exact ⟨_, _, rfl, rfl, h.1, k.int h.2⟩
  · cases hx.nl (fun _ z => nomatch z); cases hy.nl (fun _ z => nomatch z)
    exact ⟨_, _, rfl, rfl, h.1, k.int h.2⟩
  · cases hx.nl (fun _ z => nomatch z); cases hy.nl (fun _ z => nomatch z)
    exact ⟨_, _, rfl, rfl, h.1, k.int h.2⟩
/-! ### comparisons -/
def copOf : COp → CmpOp
  | .eq => .Eq | .ne => .NotEq | .lt => .Lt | .le => .LtE | .gt => .Gt | .ge => .GtE | .inn => .In | .notin => .NotIn | .iss => .Is | .isnot => .IsNot
def rSgn (neg : Bool) : R2 := fun x y H Q => ∃ (c : Nat) (z : Str), x = .str ⟨#[c]⟩ ∧ y = .str z ∧ Q (.bl (if neg then !decide (c ∈ z.cps.toList) else decide (c ∈ z.cps.toList))) H
def rEqL (K : PySem.W.Frag) (r : Bool) : R2 := fun x y H Q => ∃ a b xs ys, x = .ref a ∧ y = .ref b ∧ SqL K H a xs ∧ SqL K H b ys ∧ xs.length ≠ ys.length ∧ Q (.bl r) H
theorem op_eqL {X : Cx} (hu : X.A.units < cLine) : OpR X (compareOp .Eq) (rEqL X.K false) := by
  intro pins s σ H x y v u Q I rx ry h
  obtain ⟨a, b, xs, ys, rfl, rfl, h1, h2, ne, q⟩ := h
  cases rx
  cases ry
  obtain ⟨its, rv, ⟨o, n, ho, hc, _, hd⟩, _⟩ := I.list h1
  obtain ⟨its2, rv2, ⟨o2, n2, ho2, hc2, _, hd2⟩, _⟩ := I.list h2
  have l1 := rv.length
  have l2 := rv2.length
  exact SeqAt.RcAt.lists_lengths ⟨o, ho, hc, n, hd⟩ ⟨o2, ho2, hc2, n2, hd2⟩ (by simp; omega) hu _ _ _ _ ⟨.bl _, H, I, rfl, q⟩
theorem op_neL {X : Cx} (hu : X.A.units < cLine) : OpR X (compareOp .NotEq) (rEqL X.K true) := by
  intro pins s σ H x y v u Q I rx ry h
  obtain ⟨a, b, xs, ys, rfl, rfl, h1, h2, ne, q⟩ := h
  cases rx
  cases ry
  obtain ⟨its, rv, ⟨o, n, ho, hc, _, hd⟩, _⟩ := I.list h1
  obtain ⟨its2, rv2, ⟨o2, n2, ho2, hc2, _, hd2⟩, _⟩ := I.list h2
  have l1 := rv.length
  have l2 := rv2.length
  exact SeqAt.RcNeAt.lists_lengths ⟨o, ho, hc, n, hd⟩ ⟨o2, ho2, hc2, n2, hd2⟩ (by simp; omega) hu _ _ _ _ ⟨.bl _, H, I, rfl, q⟩
def rCmp (K : PySem.W.Frag) : COp → R2
  | .eq => fun x y H Q => rEq x y H Q ∨ (rEqD K x y H Q ∨ rEqL K false x y H Q)
  | .ne => fun x y H Q => rNe x y H Q ∨ (rNeD K x y H Q ∨ rEqL K true x y H Q)
  | .lt => rI0 fun i j => .bl (decide (i < j))
  | .le => rI0 fun i j => .bl (decide (i ≤ j))
  | .gt => rI0 fun i j => .bl (decide (j < i))
  | .ge => rI0 fun i j => .bl (decide (j ≤ i))
  | .inn => fun x y H Q => rSgn false x y H Q ∨ (rIn K false x y H Q ∨ rInD K x y H Q)
  | .notin => fun x y H Q => rSgn true x y H Q ∨ (rIn K true x y H Q ∨ rNotInD K x y H Q)
  | .iss => fun x y H Q => y = .non ∧ Q (.bl (decide (x = .non))) H
  | .isnot => fun x y H Q => y = .non ∧ Q (.bl (!decide (x = .non))) H
theorem op_cmp {X : Cx} (hu : X.A.units + 65 < cLine) (o : COp) : OpR X (compareOp (copOf o)) (rCmp X.K o) := by
  cases o with
  | eq => exact OpR.or op_eq (OpR.or (op_eqD (by omega)) (op_eqL (by omega)))
  | ne => exact OpR.or op_ne (OpR.or (op_neD (by omega)) (op_neL (by omega)))
  | lt => exact op_lt
  | le => exact op_le
  | gt => exact op_gt
  | ge => exact op_ge
  | inn => exact OpR.or op_in_sign (OpR.or op_in_seq (op_inD hu))
  | notin => exact OpR.or op_notIn_sign (OpR.or op_notIn_seq (op_notInD hu))
  | iss => exact op_isN
  | isnot => exact op_notN
mutual
def toD : PV → PyData
  | .int i => .int i
  | .bl b => .bool b
  | .non => .none
  | .str s => .str ⟨s.toArray⟩
  | .tup l => .tuple (toDs l)
  | .lst l => .list (toDs l)
  | _ => .none
def toDs : List PV → List PyData
  | [] => []
  | p :: ps => toD p :: toDs ps
end
mutual
theorem dataB_shape : ∀ (n : Nat) (p : PV), dataB n p = true → (toD p).canLay0 = true ∧ (toD p).depth ≤ n
  | n, .int i, _ => by cases n <;> simp [toD, PyData.canLay0, PyData.depth]
  | n, .bl b, _ => by cases n <;> simp [toD, PyData.canLay0, PyData.depth]
  | n, .non, _ => by cases n <;> simp [toD, PyData.canLay0, PyData.depth]
  | n, .str s, h => by
    have h' : s.all (· < 1114112) = true := by cases n <;> exact h
    refine ⟨?_, by simp [toD, PyData.depth]⟩
    simp only [toD, PyData.canLay0, PyData.strOk]
    simpa using h'
  | n + 1, .tup l, h => by
    have q := dataBs_shape n l h
    exact ⟨by simpa [toD, PyData.canLay0] using q.1, by simp only [toD, PyData.depth]; omega⟩
  | n + 1, .lst l, h => by
    have q := dataBs_shape n l h
    exact ⟨by simpa [toD, PyData.canLay0] using q.1, by simp only [toD, PyData.depth]; omega⟩
  | 0, .tup l, h => by cases h
  | 0, .lst l, h => by cases h
  | 0, .ro l, h => by cases h
  | n + 1, .ro l, h => by cases h
  | 0, .obj _ _, h => by cases h
  | n + 1, .obj _ _, h => by cases h
  | 0, .rng _ _, h => by cases h
  | n + 1, .rng _ _, h => by cases h
theorem dataBs_shape : ∀ (n : Nat) (l : List PV), dataBs n l = true → PyData.canLayAll0 (toDs l) = true ∧ PyData.depthAll (toDs l) ≤ n
  | _, [], _ => ⟨rfl, Nat.zero_le _⟩
  | n, p :: ps, h => by
    simp only [dataBs, Bool.and_eq_true] at h
    have h1 := dataB_shape n p h.1
    have h2 := dataBs_shape n ps h.2
    refine ⟨by simp [toDs, PyData.canLayAll0, h1.1, h2.1], ?_⟩
    simp only [toDs, PyData.depthAll]
    omega
end
theorem shaped_of {n : Nat} (hn : n ≤ 64) {p : PV} (h : dataB n p = true) : SeqAt.shaped (toD p) = true := by
  have q := dataB_shape n p h
  unfold SeqAt.shaped
  simp only [q.1, Bool.true_and, decide_eq_true_eq]
  omega
theorem str_eq (s t : List Nat) : ((⟨s.toArray⟩ : Str) == ⟨t.toArray⟩) = decide (s = t) := by
  rw [Bool.eq_iff_iff]
  simp
mutual
theorem eqv_toD : ∀ (n m : Nat) (p q : PV), dataB n p = true → dataB m q = true → PyData.eqv (toD p) (toD q) = eqPV p q
  | n, m, p, q, hp, hq => by
    cases p with
    | int i => cases q <;> (try (first | (simp [toD, PyData.eqv, eqPV]; done) | (simp only [toD, PyData.eqv, eqPV]; rw [Bool.eq_iff_iff]; simp))) <;> (cases m <;> cases hq)
    | bl i => cases q <;> (try simp [toD, PyData.eqv, eqPV]) <;> (cases m <;> cases hq)
    | non => cases q <;> (try simp [toD, PyData.eqv, eqPV]) <;> (cases m <;> cases hq)
    | str s => cases q <;> (try (first | (simp [toD, PyData.eqv, eqPV]; done) | (simp only [toD, PyData.eqv, eqPV]; rw [Bool.eq_iff_iff]; simp))) <;> (cases m <;> cases hq)
    | tup l =>
      cases n with
      | zero => cases hp
      | succ n =>
        cases q with
        | tup k =>
          cases m with
          | zero => cases hq
          | succ m => simp only [toD, PyData.eqv, eqPV]; exact eqv_toDs n m l k hp hq
        | ro _ => cases m <;> cases hq
        | obj _ _ => cases m <;> cases hq
        | rng _ _ => cases m <;> cases hq
        | _ => simp [toD, PyData.eqv, eqPV]
    | lst l =>
      cases n with
      | zero => cases hp
      | succ n =>
        cases q with
        | lst k =>
          cases m with
          | zero => cases hq
          | succ m => simp only [toD, PyData.eqv, eqPV]; exact eqv_toDs n m l k hp hq
        | ro _ => cases m <;> cases hq
        | obj _ _ => cases m <;> cases hq
        | rng _ _ => cases m <;> cases hq
        | _ => simp [toD, PyData.eqv, eqPV]
    | ro _ => cases n <;> cases hp
    | obj _ _ => cases n <;> cases hp
    | rng _ _ => cases n <;> cases hp
theorem eqv_toDs : ∀ (n m : Nat) (p q : List PV), dataBs n p = true → dataBs m q = true → PyData.eqvAll (toDs p) (toDs q) = eqPVs p q
  | n, m, [], [], _, _ => rfl
  | n, m, [], _ :: _, _, _ => rfl
  | n, m, _ :: _, [], _, _ => rfl
  | n, m, p :: ps, q :: qs, hp, hq => by
    simp only [dataBs, Bool.and_eq_true] at hp hq
    simp only [toDs, PyData.eqvAll, eqPVs]
    rw [eqv_toD n m p q hp.1 hq.1, eqv_toDs n m ps qs hp.2 hq.2]
end
section
variable {C : Cn} {O : Addr → Prop} {H : Hp}
mutual
theorem dp_of : ∀ (n : Nat) (p : PV) (v : V), dataB n p = true → Rep C O H p v → Dp C.K H v (toD p)
  | _, .int i, v, _, h => by cases h; exact .int i
  | _, .bl i, v, _, h => by cases h; exact .bl i
  | _, .non, v, _, h => by cases h; exact .non
  | _, .str i, v, _, h => by cases h; exact .str _
  | n + 1, .tup l, v, hd, h => by
    obtain ⟨a, vs, rfl, h1, h2⟩ := h
    exact .tup (sqT_of h1) (dps_of n l vs hd h2)
  | n + 1, .lst l, v, hd, h => by
    obtain ⟨a, vs, rfl, h1, h2⟩ := h
    exact .lst (.inl (.inl h1.2)) (dps_of n l vs hd h2)
  | 0, .tup l, _, h, _ => by cases h
  | 0, .lst l, _, h, _ => by cases h
  | 0, .ro l, _, h, _ => by cases h
  | n + 1, .ro l, _, h, _ => by cases h
  | 0, .obj _ _, _, h, _ => by cases h
  | n + 1, .obj _ _, _, h, _ => by cases h
  | 0, .rng _ _, _, h, _ => by cases h
  | n + 1, .rng _ _, _, h, _ => by cases h
theorem dps_of : ∀ (n : Nat) (p : List PV) (v : List V), dataBs n p = true → Reps C O H p v → DpAll C.K H v (toDs p)
  | _, [], _, _, h => by cases h; exact .nil
  | n, p :: ps, _, hd, h => by
    simp only [dataBs, Bool.and_eq_true] at hd
    obtain ⟨v, r, rfl, h1, h2⟩ := h
    exact .cons (dp_of n p v hd.1 h1) (dps_of n ps r hd.2 h2)
end
theorem dp_ofB {n : Nat} {p : PV} {v : V} (hd : dataB (n + 1) p = true) (h : RepB C O H p v) : Dp C.K H v (toD p) := by
  rcases h with h | ⟨l, a, vs, rfl, rfl, h1, h2⟩
  · exact dp_of (n + 1) p v hd h
  · exact .lst (.inl (.inl h1)) (dps_of n l vs hd h2)
theorem flat_rep {p : PV} {v : V} (h : Rep C O H p v) (f : flatP p = true) : flatV v = true := by
  cases p <;> first | (cases h; rfl) | cases f
theorem flat_reps : ∀ {l : List PV} {vs : List V}, Reps C O H l vs → l.all flatP = true → vs.all flatV = true
  | [], _, h, _ => by cases h; rfl
  | p :: ps, _, h, f => by
    obtain ⟨v, r, rfl, h1, h2⟩ := h
    rw [List.all_cons, Bool.and_eq_true] at f ⊢
    exact ⟨flat_rep h1 f.1, flat_reps h2 f.2⟩
theorem eq_rep {p q : PV} {v w : V} (h : Rep C O H p v) (f : flatP p = true) (h' : Rep C O H q w) (f' : flatP q = true) : eqV v w = eqPV p q := by
  cases p <;> first | cases f | skip
  all_goals cases h
  all_goals cases q <;> first | cases f' | skip
  all_goals cases h'
  all_goals first | rfl | (simp only [eqV, eqPV]; rw [Bool.eq_iff_iff]; simp)
theorem any_rep {x : PV} {vx : V} (hx : Rep C O H x vx) (fx : flatP x = true) : ∀ {l : List PV} {vs : List V}, Reps C O H l vs → l.all flatP = true → inV vx vs = l.any fun z => eqPV z x
  | [], _, h, _ => by cases h; rfl
  | p :: ps, _, h, f => by
    obtain ⟨v, r, rfl, h1, h2⟩ := h
    rw [List.all_cons, Bool.and_eq_true] at f
    have ih := any_rep hx fx h2 f.2
    unfold inV at ih ⊢
    rw [List.any_cons, List.any_cons, ih, eq_rep h1 f.1 hx fx]
theorem seq_rep {p : PV} {v : V} {l : List PV} (h : RepB C O H p v) (e : seqOf p = some l) : ∃ a vs, v = .ref a ∧ (SqL C.K H a vs ∨ SqT C.K H a vs) ∧ Reps C O H l vs := by
  cases p <;> first | cases e | skip
  · obtain ⟨a, vs, e, h1, h2⟩ := h.nl (fun _ z => nomatch z); exact ⟨a, vs, e, .inr (sqT_of h1), h2⟩
  · obtain ⟨a, vs, e, h1, h2⟩ := h.list; exact ⟨a, vs, e, .inl (.inl (.inl h1)), h2⟩
  · obtain ⟨a, vs, e, h1, h2⟩ := h.nl (fun _ z => nomatch z); exact ⟨a, vs, e, .inl (sqL_of h1), h2⟩
theorem scal_rep {x y : PV} {vx vy : V} (hx : RepB C O H x vx) (hy : RepB C O H y vy) (h : scalP x y = true) : scal vx vy = true ∧ decide (vx = vy) = eqPV x y := by
  cases x <;> first | cases h | skip
  all_goals cases y <;> first | cases h | skip
  all_goals cases hx.nl (fun _ z => nomatch z)
  all_goals cases hy.nl (fun _ z => nomatch z)
  all_goals refine ⟨rfl, ?_⟩
  all_goals first | rfl | (simp only [eqPV]; rw [Bool.eq_iff_iff]; simp) | simp [eqPV]
theorem sgnP_some {x y : PV} {z : Nat × List Nat} (h : sgnP x y = some z) : ∃ c s, x = .str [c] ∧ y = .str s ∧ z = (c, s) := by
  unfold sgnP at h
  split at h
  · cases h; exact ⟨_, _, rfl, rfl, rfl⟩
  · cases h
theorem isNon_rep {x : PV} {v : V} (hx : RepB C O H x v) : decide (v = .non) = isNon x := by
  cases x <;> rcases hx with h | ⟨l, a, vs, e, rfl, _⟩ <;> first | cases e | skip
  all_goals first | (cases h; rfl) | (obtain ⟨a, h⟩ := h; first | (obtain ⟨vs, rfl, _⟩ := h; rfl) | (obtain ⟨dx, fvs, rfl, _⟩ := h; rfl) | (obtain ⟨rfl, _⟩ := h; rfl)) | rfl
theorem cmpR_ok {R : PV → Prop} {Q : VK} (o : COp) {x y : PV} {vx vy : V} (hx : RepB C O H x vx) (hy : RepB C O H y vy) (h : cmpR o x y R) (k : ∀ b, R (.bl b) → Q (.bl b) H) : rCmp C.K o vx vy H Q := by
  have inn : ∀ (neg : Bool) {l : List PV}, seqOf y = some l → flatP x = true → l.all flatP = true → R (.bl (if neg then !l.any fun z => eqPV z x else l.any fun z => eqPV z x)) → rIn C.K neg vx vy H Q := by
    intro neg l e f f' q
    obtain ⟨a, vs, e2, h1, h2⟩ := seq_rep hy e
    have hx' : Rep C O H x vx := hx.nl (fun l z => by rw [z] at f; cases f)
    refine ⟨a, vs, e2, h1, flat_rep hx' f, flat_reps h2 f', ?_⟩
    rw [any_rep hx' f h2 f']
    exact k _ q
  have ind : ∀ {l : List PV}, inD x y = true → seqOf y = some l → Dp C.K H vx (toD x) ∧ Dp C.K H vy (.list (toDs l)) ∧ (SeqAt.shaped (toD x) = true ∧ SeqAt.shaped (.list (toDs l)) = true ∧ ((toDs l).any fun z => PyData.eqv z (toD x)) = l.any fun z => eqPV z x) := by
    intro l f e
    unfold inD at f
    split at f
    · cases e
      simp only [Bool.and_eq_true] at f
      refine ⟨dp_ofB f.1 hx, dp_ofB f.2 hy, shaped_of (by decide) f.1, shaped_of (p := .lst l) (by decide) f.2, ?_⟩
      have hl : dataBs 7 l = true := f.2
      have : ∀ l : List PV, dataBs 7 l = true → ((toDs l).any fun z => PyData.eqv z (toD x)) = l.any fun z => eqPV z x := by
        intro l
        induction l with
        | nil => intro _; rfl
        | cons p l ih =>
          intro h
          simp only [dataBs, Bool.and_eq_true] at h
          show (PyData.eqv (toD p) (toD x) || _) = _
          rw [List.any_cons, eqv_toD 7 8 p x h.1 f.1, ih h.2]
      exact this l hl
    · cases f
  have sgn : ∀ (neg : Bool) {c : Nat} {s : List Nat}, x = .str [c] → y = .str s → R (.bl (if neg then !decide (c ∈ s) else decide (c ∈ s))) → rSgn neg vx vy H Q := by
    intro neg c s e1 e2 q
    subst e1 e2
    cases hx.nl (fun _ z => nomatch z)
    cases hy.nl (fun _ z => nomatch z)
    refine ⟨c, ⟨s.toArray⟩, rfl, rfl, ?_⟩
    simpa using k _ q
  cases o with
  | eq =>
    obtain ⟨h1, h2⟩ := h
    simp only [okEq, Bool.or_eq_true, Bool.and_eq_true] at h1
    rcases h1 with (h1 | h1) | h1
    · obtain ⟨e1, e2⟩ := scal_rep hx hy h1
      exact .inl ⟨e1, by rw [e2]; exact k _ h2⟩
    rotate_left
    · obtain ⟨l, l', rfl, rfl, hn, e2⟩ := lenNe_eq h1
      obtain ⟨a, vs, e, g1, g2⟩ := hx.list
      obtain ⟨a', vs', e', g1', g2'⟩ := hy.list
      rw [e2] at h2
      exact .inr (.inr ⟨a, a', vs, vs', e, e', .inl (.inl g1), .inl (.inl g1'), by rw [g2.length, g2'.length]; exact hn, k _ h2⟩)
    · exact .inr <| .inl ⟨_, _, dp_ofB h1.1 hx, dp_ofB h1.2 hy, shaped_of (by decide) h1.1, shaped_of (by decide) h1.2, by rw [eqv_toD 8 8 x y h1.1 h1.2]; exact k _ h2⟩
  | ne =>
    obtain ⟨h1, h2⟩ := h
    simp only [okEq, Bool.or_eq_true, Bool.and_eq_true] at h1
    rcases h1 with (h1 | h1) | h1
    · obtain ⟨e1, e2⟩ := scal_rep hx hy h1
      exact .inl ⟨e1, by rw [e2]; exact k _ h2⟩
    rotate_left
    · obtain ⟨l, l', rfl, rfl, hn, e2⟩ := lenNe_eq h1
      obtain ⟨a, vs, e, g1, g2⟩ := hx.list
      obtain ⟨a', vs', e', g1', g2'⟩ := hy.list
      rw [e2] at h2
      exact .inr (.inr ⟨a, a', vs, vs', e, e', .inl (.inl g1), .inl (.inl g1'), by rw [g2.length, g2'.length]; exact hn, k _ h2⟩)
    · exact .inr <| .inl ⟨_, _, dp_ofB h1.1 hx, dp_ofB h1.2 hy, shaped_of (by decide) h1.1, shaped_of (by decide) h1.2, by rw [eqv_toD 8 8 x y h1.1 h1.2]; exact k _ h2⟩
  | lt =>
    cases x <;> first | exact h.elim | skip
    cases y <;> first | exact h.elim | skip
    cases hx.nl (fun _ z => nomatch z); cases hy.nl (fun _ z => nomatch z)
    exact ⟨_, _, rfl, rfl, k _ h⟩
  | le =>
    cases x <;> first | exact h.elim | skip
    cases y <;> first | exact h.elim | skip
    cases hx.nl (fun _ z => nomatch z); cases hy.nl (fun _ z => nomatch z)
    exact ⟨_, _, rfl, rfl, k _ h⟩
  | gt =>
    cases x <;> first | exact h.elim | skip
    cases y <;> first | exact h.elim | skip
    cases hx.nl (fun _ z => nomatch z); cases hy.nl (fun _ z => nomatch z)
    exact ⟨_, _, rfl, rfl, k _ h⟩
  | ge =>
    cases x <;> first | exact h.elim | skip
    cases y <;> first | exact h.elim | skip
    cases hx.nl (fun _ z => nomatch z); cases hy.nl (fun _ z => nomatch z)
    exact ⟨_, _, rfl, rfl, k _ h⟩
  | inn =>
    cases e : sgnP x y with
    | some z =>
      have h' : R (.bl (decide (z.1 ∈ z.2))) := by
        have h2 := h
        simp only [cmpR, e] at h2
        exact h2
      obtain ⟨c, s, rfl, rfl, rfl⟩ := sgnP_some e
      exact .inl (sgn false rfl rfl h')
    | none =>
      have h2 := h
      simp only [cmpR, e] at h2
      obtain ⟨l, e, f, q⟩ := h2
      rcases f with f | f
      · exact .inr (.inl (inn false e f.1 f.2 q))
      · obtain ⟨g1, g2, g3⟩ := ind f e
        exact .inr (.inr ⟨_, _, g1, g2, g3.1, g3.2.1, by rw [g3.2.2]; exact k _ q⟩)
  | notin =>
    cases e : sgnP x y with
    | some z =>
      have h' : R (.bl (!decide (z.1 ∈ z.2))) := by
        have h2 := h
        simp only [cmpR, e] at h2
        exact h2
      obtain ⟨c, s, rfl, rfl, rfl⟩ := sgnP_some e
      exact .inl (sgn true rfl rfl h')
    | none =>
      have h2 := h
      simp only [cmpR, e] at h2
      obtain ⟨l, e, f, q⟩ := h2
      rcases f with f | f
      · exact .inr (.inl (inn true e f.1 f.2 q))
      · obtain ⟨g1, g2, g3⟩ := ind f e
        exact .inr (.inr ⟨_, _, g1, g2, g3.1, g3.2.1, by rw [g3.2.2]; exact k _ q⟩)
  | iss =>
    have e := isNon_rep hy
    rw [h.1, decide_eq_true_eq] at e
    exact ⟨e, by rw [isNon_rep hx]; exact k _ h.2⟩
  | isnot =>
    have e := isNon_rep hy
    rw [h.1, decide_eq_true_eq] at e
    exact ⟨e, by rw [isNon_rep hx]; exact k _ h.2⟩
end
end Lh
/-! E5: items, slices, built-ins. -/
namespace Lh
open PySem PySem.Spec PyProof.Rows L2
theorem pyIx_eq (n : Nat) (i : Int) : pyIx n i = ixN n i := rfl
theorem atI_of {α : Type} {xs : List α} {i : Int} {k : Nat} {v : α} (h : pyIx xs.length i = some k) (e : xs[k]? = some v) : atI xs i = some v := by
  unfold atI
  rw [← pyIx_eq, h]
  exact e
theorem slEnd_eq (n d : Nat) (o : Option Int) : slEnd n d o = HT.sIx n d o := by
  cases o with
  | none => rfl
  | some v =>
    show (if 0 ≤ v then min v.toNat n else (v + n).toNat) = if v < 0 then (v + (n : Int)).toNat else min v.toNat n
    by_cases h : v < 0
    · rw [if_pos h, if_neg (by omega)]
    · rw [if_neg h, if_pos (by omega)]
theorem slEnd_le (n d : Nat) (hd : d ≤ n) (o : Option Int) : slEnd n d o ≤ n := by rw [slEnd_eq]; exact HT.sIx_le n d hd o
section
variable {C : Cn} {O : Addr → Prop} {H : Hp} {R : PV → Prop} {Q : VK}
theorem ixR_ok {x y : PV} {vx vy : V} (hx : RepB C O H x vx) (hy : Rep C O H y vy) (h : ixR x y R) (k : Kf C O H R Q) : rIx C.K vx vy H Q := by
  cases x <;> first | exact h.elim | skip
  all_goals cases y <;> first | exact h.elim | skip
  all_goals cases hy
  · obtain ⟨j, c, h1, h2, h3, h4⟩ := h
    cases hx.nl (fun _ z => nomatch z)
    exact .inr (.inr ⟨_, _, c, rfl, rfl, by rw [str_len, szl]; exact h2, atI_of (by simpa using h1) (by simpa using h3), k.str h4⟩)
  · obtain ⟨j, p, h1, h2, h3⟩ := h
    obtain ⟨a, vs, e, h4, h5⟩ := hx.nl (fun _ z => nomatch z)
    obtain ⟨v, h6, h7⟩ := h5.get h2
    exact .inr (.inl ⟨a, vs, _, v, e, rfl, sqT_of h4, atI_of (by rw [h5.length]; exact h1) h6, k _ _ _ h3 (Same.refl H) h7⟩)
  · obtain ⟨j, p, h1, h2, h3⟩ := h
    obtain ⟨a, vs, e, h4, h5⟩ := hx.list
    obtain ⟨v, h6, h7⟩ := h5.get h2
    exact .inl ⟨a, vs, _, v, e, rfl, .inl (.inl h4), atI_of (by rw [h5.length]; exact h1) h6, k _ _ _ h3 (Same.refl H) h7⟩
  · obtain ⟨j, p, h1, h2, h3⟩ := h
    obtain ⟨a, vs, e, h4, h5⟩ := hx.nl (fun _ z => nomatch z)
    obtain ⟨v, h6, h7⟩ := h5.get h2
    exact .inl ⟨a, vs, _, v, e, rfl, sqL_of h4, atI_of (by rw [h5.length]; exact h1) h6, k _ _ _ h3 (Same.refl H) h7⟩
def rSlX (K : PySem.W.Frag) : V → Option Int → Option Int → Hp → VK → Prop := fun x lo hi H Q => rSlL K x lo hi H Q ∨ rSlS x lo hi H Q ∨ rSlA K x lo hi H Q
theorem sl_any {X : Cx} : L2.SlR X (rSlX X.K) := L2.SlR.or sl_list (L2.SlR.or sl_str sl_tupA)
theorem cutV_rep {l : List PV} {vs : List V} (h : Reps C O H l vs) (lo hi : Option Int) : Reps C O H (cutP l lo hi) (cutV vs lo hi) := by
  unfold cutP cutV
  rw [slEnd_eq, slEnd_eq, h.length]
  exact (h.drop _).take _
theorem slR_ok {x : PV} {vx : V} {i j : Option Int} (d : DomO O H) (hx : RepB C O H x vx) (h : slR x i j R) (k : Kt C O H R Q) : rSlX C.K vx i j H Q := by
  cases x <;> first | exact h.elim | skip
  · cases hx.nl (fun _ z => nomatch z)
    refine .inr (.inl ⟨_, rfl, by rw [str_len, szl]; exact h.1, ?_⟩)
    have e : ∀ s : List Nat, cutS ⟨s.toArray⟩ i j = ⟨(cutP s i j).toArray⟩ := fun s => by
      unfold cutS cutP
      rw [slEnd_eq, slEnd_eq]
      simp [Str.length]
    rw [e]
    exact k.str h.2
  · obtain ⟨a, vs, e, h4, h5⟩ := hx.nl (fun _ z => nomatch z)
    refine .inr (.inr ⟨a, vs, e, sqT_of h4, fun z => ?_, fun _ => k.tup d h (cutV_rep h5 i j)⟩)
    refine k _ _ _ h (Same.refl H) ?_ (frl_no fun _ z => nomatch z)
    rename_i l
    have e2 : cutP l i j = l := by
      have l1 := h5.length
      rw [l1] at z
      unfold cutP
      rw [slEnd_eq, slEnd_eq, z.1, z.2]
      simp
    rw [e2]
    exact ⟨a, vs, rfl, h4, h5⟩
  · obtain ⟨a, vs, e, h4, h5⟩ := hx.list
    exact .inl ⟨a, vs, e, .inl (.inl h4), k.list d h (cutV_rep h5 i j)⟩
/-! ### built-ins of one argument -/
def rB1 (K : PySem.W.Frag) : B1 → List V → Hp → VK → Prop
  | .len => fun xs H Q => ∃ x n, xs = [x] ∧ LenV K x H n ∧ Q (.int n) H
  | .list => fun xs H Q => ∃ p ys, xs = [.ref p] ∧ (SqL K H p ys ∨ SqT K H p ys) ∧ ∀ l, H l = none → Q (.ref l) (upd H l (.lst ys))
  | .tuple => fun xs H Q => ∃ p ys, xs = [.ref p] ∧ ((SqL K H p ys ∧ ∀ l, H l = none → Q (.ref l) (upd H l (.tup ys))) ∨ (SqT K H p ys ∧ Q (.ref p) H))
  | .int => fun xs H Q => (∃ i, xs = [.int i] ∧ Q (.int i) H) ∨ ∃ k, xs = [.bl k] ∧ Q (.int (if k then 1 else 0)) H
  | .all => rAll K
  | .any => rAny K
  | .sum => rSum K
  | .abs => fun xs H Q => ∃ i, xs = [.int i] ∧ Q (.int (if i < 0 then -i else i)) H
  | .sorted => rSortedI K
  | .min => rMin K
  | .max => rMax K
  | .lenset => fun _ _ _ => False
  | .sortedset => fun _ _ _ => False
/-- its name, its value -/
def b1Val : B1 → Value
  | .len => .builtin "len" | .list => .type "list" | .tuple => .type "tuple" | .int => .type "int" | .all => .builtin "all" | .any => .builtin "any" | .sum => .builtin "sum"
  | .abs => .builtin "abs" | .sorted => .builtin "sorted" | .min => .builtin "min" | .max => .builtin "max" | .lenset => .none | .sortedset => .none
theorem cr_b1 {X : Cx} (hc : X.calm = true) (f : B1) (hf : f ≠ .lenset) (hf2 : f ≠ .sortedset) : CallR X (b1Val f) (rB1 X.K f) := by
  cases f with
  | len => exact call_len
  | list => exact call_list_of
  | tuple => exact call_tuple_of
  | int => exact call_int1
  | all => exact cr_all hc
  | any => exact cr_any hc
  | sum => exact cr_sum hc
  | abs => exact call_abs
  | sorted => exact cr_sortedI
  | min => exact cr_min hc
  | max => exact cr_max hc
  | lenset => exact absurd rfl hf
  | sortedset => exact absurd rfl hf2
theorem intsB {l : List PV} {ns : List Int} {v : V} (hx : RepB C O H (.lst l) v) (h : intsOf l = some ns) : ∃ a, v = .ref a ∧ SqL C.K H a (ns.map V.int) := by
  obtain ⟨a, vs, e, h4, h5⟩ := hx.list
  rw [intsOf_eq h] at h5
  rw [h5.of_ints] at h4
  exact ⟨a, e, .inl (.inl h4)⟩
theorem bi1R_ok {f : B1} {x : PV} {vx : V} (hf : f ≠ .lenset) (d : DomO O H) (hx : RepB C O H x vx) (h : bi1R f x R) (k : Kt C O H R Q) : rB1 C.K f [vx] H Q := by
  cases f with
  | len =>
    cases x <;> first | exact h.elim | skip
    · cases hx.nl (fun _ z => nomatch z)
      refine ⟨_, _, rfl, ⟨by rw [str_len, szl]; exact h.1, rfl⟩, ?_⟩
      rw [str_len]
      exact k.int h.2
    · obtain ⟨a, vs, rfl, h4, h5⟩ := hx.nl (fun _ z => nomatch z)
      refine ⟨_, _, rfl, .inr ⟨vs, sqT_of h4, rfl⟩, ?_⟩
      rw [h5.length]; exact k.int h
    · obtain ⟨a, vs, rfl, h4, h5⟩ := hx.list
      refine ⟨_, _, rfl, .inl ⟨vs, .inl (.inl h4), rfl⟩, ?_⟩
      rw [h5.length]; exact k.int h
    · obtain ⟨a, vs, rfl, h4, h5⟩ := hx.nl (fun _ z => nomatch z)
      refine ⟨_, _, rfl, .inl ⟨vs, sqL_of h4, rfl⟩, ?_⟩
      rw [h5.length]; exact k.int h
  | list =>
    cases x <;> first | exact h.elim | skip
    · obtain ⟨a, vs, rfl, h4, h5⟩ := hx.nl (fun _ z => nomatch z)
      exact ⟨a, vs, rfl, .inr (sqT_of h4), k.list d h h5⟩
    · obtain ⟨a, vs, rfl, h4, h5⟩ := hx.list
      exact ⟨a, vs, rfl, .inl (.inl (.inl h4)), k.list d h h5⟩
    · obtain ⟨a, vs, rfl, h4, h5⟩ := hx.nl (fun _ z => nomatch z)
      exact ⟨a, vs, rfl, .inl (sqL_of h4), k.list d h h5⟩
  | tuple =>
    cases x <;> first | exact h.elim | skip
    · obtain ⟨a, vs, rfl, h4, h5⟩ := hx.nl (fun _ z => nomatch z)
      exact ⟨a, vs, rfl, .inr ⟨sqT_of h4, k _ _ _ h (Same.refl H) ⟨a, vs, rfl, h4, h5⟩ (frl_no fun _ z => nomatch z)⟩⟩
    · obtain ⟨a, vs, rfl, h4, h5⟩ := hx.list
      exact ⟨a, vs, rfl, .inl ⟨.inl (.inl h4), k.tup d h h5⟩⟩
    · obtain ⟨a, vs, rfl, h4, h5⟩ := hx.nl (fun _ z => nomatch z)
      exact ⟨a, vs, rfl, .inl ⟨sqL_of h4, k.tup d h h5⟩⟩
  | int =>
    cases x <;> first | exact h.elim | skip
    · cases hx.nl (fun _ z => nomatch z)
      exact .inl ⟨_, rfl, k.int h⟩
    · cases hx.nl (fun _ z => nomatch z)
      exact .inr ⟨_, rfl, k.int h⟩
  | all =>
    cases x <;> first | exact h.elim | skip
    obtain ⟨bs, e, q⟩ := h
    obtain ⟨a, vs, rfl, h4, h5⟩ := hx.list
    rw [blsOf_eq e] at h5
    rw [h5.of_bls] at h4
    exact ⟨a, bs, rfl, .inl (.inl h4), k _ _ _ q (Same.refl H) rfl (frl_no fun _ z => nomatch z)⟩
  | any =>
    cases x <;> first | exact h.elim | skip
    obtain ⟨bs, e, q⟩ := h
    obtain ⟨a, vs, rfl, h4, h5⟩ := hx.list
    rw [blsOf_eq e] at h5
    rw [h5.of_bls] at h4
    exact ⟨a, bs, rfl, .inl (.inl h4), k _ _ _ q (Same.refl H) rfl (frl_no fun _ z => nomatch z)⟩
  | sum =>
    cases x <;> first | exact h.elim | skip
    · obtain ⟨ns, e, q⟩ := h
      obtain ⟨a, rfl, h4⟩ := intsB hx e
      exact ⟨a, ns, rfl, h4, k.int q⟩
    · obtain ⟨ns, e, q⟩ := h
      obtain ⟨a, vs, rfl, h4, h5⟩ := hx.nl (fun _ z => nomatch z)
      rw [intsOf_eq e] at h5
      rw [h5.of_ints] at h4
      exact ⟨a, ns, rfl, sqL_of h4, k.int q⟩
  | abs =>
    cases x <;> first | exact h.elim | skip
    cases hx.nl (fun _ z => nomatch z)
    exact ⟨_, rfl, k.int h⟩
  | sorted =>
    cases x <;> first | exact h.elim | skip
    obtain ⟨ns, e, q⟩ := h
    obtain ⟨a, rfl, h4⟩ := intsB hx e
    exact ⟨a, ns, rfl, h4, fun ms p hp hs hn => k.list d (q ms hp hs) (Reps.ints ms) p hn⟩
  | min =>
    cases x <;> first | exact h.elim | skip
    obtain ⟨ns, e, hl, q⟩ := h
    obtain ⟨a, rfl, h4⟩ := intsB hx e
    exact ⟨a, ns, rfl, h4, hl, fun m h1 h2 => k.int (q m h1 h2)⟩
  | max =>
    cases x <;> first | exact h.elim | skip
    obtain ⟨ns, e, hl, q⟩ := h
    obtain ⟨a, rfl, h4⟩ := intsB hx e
    exact ⟨a, ns, rfl, h4, hl, fun m h1 h2 => k.int (q m h1 h2)⟩
  | lenset => exact absurd rfl hf
  | sortedset => exact h.elim
end
end Lh
/-! E6: expressions keep their meaning: one lemma a construct. -/
namespace Lh
open PySem PySem.Spec PyProof.Rows L2
theorem _root_.L2.PE.conv {X : Cx} {e : Expr} {t t' : TE} (h : PE X e t) (w : ∀ σ H Q, t' σ H Q → t σ H Q) : PE X e t' := ⟨fun pins s σ H Q I q => h.run pins s σ H Q I (w σ H Q q)⟩
theorem _root_.L2.PT.conv {X : Cx} {e : Expr} {t t' : TT} (h : PT X e t) (w : ∀ σ H Q, t' σ H Q → t σ H Q) : PT X e t' := ⟨fun pins s σ H Q I q => h.run pins s σ H Q I (w σ H Q q)⟩
theorem _root_.L2.PW.conv {X : Cx} {e : Expr} {t t' : TT} (h : PW X e t) (w : ∀ σ H Q, t' σ H Q → t σ H Q) : PW X e t' := ⟨fun wh pins s σ H Q I q => h.run wh pins s σ H Q I (w σ H Q q)⟩
theorem _root_.L2.PA.conv {X : Cx} {e : List Expr} {t t' : TA} (h : PA X e t) (w : ∀ σ H Q, t' σ H Q → t σ H Q) : PA X e t' := ⟨fun pos pins s σ H Q I q => h.run pos pins s σ H Q I (w σ H Q q)⟩
/-- where an evaluation stands -/
structure At (C : Cn) (cc : CC) (O : Addr → Prop) (env : Env) (σ : L2.St) (H : Hp) : Prop where
  ex : ∃ fp, SI C cc O env σ H fp
theorem At.same {C : Cn} {cc : CC} {O : Addr → Prop} {env : Env} {σ : L2.St} {H H' : Hp} (A : At C cc O env σ H) (h : Same H H') : At C cc O env σ H' := let ⟨fp, I⟩ := A.ex; ⟨fp, I.same h⟩
theorem At.dom {C : Cn} {cc : CC} {O : Addr → Prop} {env : Env} {σ : L2.St} {H : Hp} (A : At C cc O env σ H) : DomO O H := let ⟨fp, I⟩ := A.ex; fun a o => I.dom a o
theorem FrL.back {C : Cn} {O : Addr → Prop} {H H1 H' : Hp} {p : PV} {v : V} (h : Same H H1) (f : FrL C O H1 H' p v) : FrL C O H H' p v := fun l e => by
  obtain ⟨a, vs, h1, h2, h3⟩ := f l e
  exact ⟨a, vs, h1, h.free h2, h3⟩
def lenEs : Es → Nat
  | .nil => 0
  | .cons _ es => lenEs es + 1
section
variable (C : Cn) (sp : SpT)
/-- the reading of an expression: what it gives is frozen (and new, if it is a list of its own) -/
def tE (e : E) : TE := fun σ H Q => ∃ cc O env R, At C cc O env σ H ∧ evP sp e env R ∧ ∀ p v H', R p → Same H H' → Rep C O H' p v → (isFresh e = true → FrL C O H H' p v) → Q v H'
/-- .. where it may be borrowed -/
def tB (e : E) : TE := fun σ H Q => ∃ cc O env R, At C cc O env σ H ∧ borR e (evP sp e env) env R ∧ ∀ p v H', R p → Same H H' → RepB C O H' p v → Q v H'
def tT (t : T) : TT := fun σ H Q => ∃ cc O env R, At C cc O env σ H ∧ evT sp t env R ∧ ∀ b H', R b → Same H H' → Q b H'
def tEs (es : Es) : TA := fun σ H Q => ∃ cc O env R, At C cc O env σ H ∧ evEs sp es env R ∧ ∀ l vs H', R l → Same H H' → Reps C O H' l vs → l.length = lenEs es → Q vs H'
end
section
variable {C : Cn} {sp : SpT} {X : Cx}
/-- use of a reading within another -/
theorem tE_use {e : E} {σ : L2.St} {H : Hp} {Q : VK} {cc : CC} {O : Addr → Prop} {env : Env} {R : PV → Prop} (A : At C cc O env σ H) (h : evP sp e env R) (k : ∀ p v H', R p → Same H H' → Rep C O H' p v → (isFresh e = true → FrL C O H H' p v) → Q v H') : tE C sp e σ H Q :=
  ⟨cc, O, env, R, A, h, k⟩
theorem tB_use {e : E} {σ : L2.St} {H : Hp} {Q : VK} {cc : CC} {O : Addr → Prop} {env : Env} {R : PV → Prop} (A : At C cc O env σ H) (h : borR e (evP sp e env) env R) (k : ∀ p v H', R p → Same H H' → RepB C O H' p v → Q v H') : tB C sp e σ H Q :=
  ⟨cc, O, env, R, A, h, k⟩
theorem slot_of {cc : CC} {O : Addr → Prop} {env : Env} {σ : L2.St} {H : Hp} {fp : Nat → List Addr} (I : SI C cc O env σ H fp) {i : Nat} {s : Slot} (h : env[i]? = some s) : ∃ x, σ[i]? = some x ∧ SlR C O H s x (fp i) := by
  have hi : i < σ.length := by
    rw [← I.len]
    exact (List.getElem?_eq_some_iff.mp h).1
  exact ⟨σ[i], List.getElem?_eq_getElem hi, I.sl i s _ h (List.getElem?_eq_getElem hi)⟩
/-! names -/
theorem so_var {i : Nat} {a : Expr} (h : PE X a (tVar i)) : PE X a (tE C sp (.var i)) := by
  refine h.conv fun σ H Q q => ?_
  obtain ⟨cc, O, env, R, A, hv, k⟩ := q
  obtain ⟨fp, I⟩ := A.ex
  simp only [evP, rdF] at hv
  split at hv
  · rename_i p e
    obtain ⟨x, hx, v, rfl, hr, _⟩ := slot_of I e
    exact ⟨v, hx, k p v H hv (Same.refl H) hr (fun z => nomatch z)⟩
  · exact hv.elim
theorem sb_var {i : Nat} {a : Expr} (h : PE X a (tVar i)) : PE X a (tB C sp (.var i)) := by
  refine h.conv fun σ H Q q => ?_
  obtain ⟨cc, O, env, R, A, hv, k⟩ := q
  obtain ⟨fp, I⟩ := A.ex
  simp only [borR, rdB] at hv
  split at hv
  · rename_i p e
    obtain ⟨x, hx, v, rfl, hr, _⟩ := slot_of I e
    exact ⟨v, hx, k p v H hv (Same.refl H) (.inl hr)⟩
  · rename_i l e
    obtain ⟨x, hx, v, rfl, ⟨a, vs, rfl, h1, h2, _⟩, _⟩ := slot_of I e
    exact ⟨_, hx, k _ _ H hv (Same.refl H) (.inr ⟨l, a, vs, rfl, rfl, h1, h2⟩)⟩
  · rename_i l e
    obtain ⟨x, hx, v, rfl, ⟨a, vs, rfl, h1, h2, _⟩, _⟩ := slot_of I e
    exact ⟨_, hx, k _ _ H hv (Same.refl H) (.inr ⟨l, a, vs, rfl, rfl, h1, h2⟩)⟩
  · rename_i p e
    obtain ⟨x, hx, v, rfl, h1⟩ := slot_of I e
    rcases h1 with ⟨h1, _⟩ | ⟨l, rfl, a, vs, rfl, h1, h2, _⟩
    · exact ⟨_, hx, k _ _ H hv (Same.refl H) (.inl h1)⟩
    · exact ⟨_, hx, k _ _ H hv (Same.refl H) (.inr ⟨l, a, vs, rfl, rfl, h1, h2⟩)⟩
  · exact hv.elim
/-- what is no name is borrowed as it is -/
theorem borR_eq {e : E} {k : (PV → Prop) → Prop} {env : Env} {R : PV → Prop} (h1 : ∀ i, e ≠ .var i) (h2 : ∀ i f, e ≠ .ofld i f) (h : borR e k env R) : k R := by
  cases e <;> first | exact h | exact absurd rfl (h1 _) | exact absurd rfl (h2 _ _)
theorem sb_of {e : E} {a : Expr} (h1 : ∀ i, e ≠ .var i) (h2 : ∀ i f, e ≠ .ofld i f) (h : PE X a (tE C sp e)) : PE X a (tB C sp e) := by
  refine h.conv fun σ H Q q => ?_
  obtain ⟨cc, O, env, R, A, hv, k⟩ := q
  exact ⟨cc, O, env, R, A, borR_eq h1 h2 hv, fun p v H' r s e _ => k p v H' r s (.inl e)⟩
/-! constants -/
theorem so_const {e : E} {a : Expr} {v : V} {p : PV} (h : PE X a (tC v)) (he : ∀ env R, evP sp e env R → R p) (hr : ∀ O H, Rep C O H p v) (hf : isFresh e = false) : PE X a (tE C sp e) := by
  refine h.conv fun σ H Q q => ?_
  obtain ⟨cc, O, env, R, A, hv, k⟩ := q
  exact k p v H (he env R hv) (Same.refl H) (hr O H) (fun z => by rw [hf] at z; cases z)
/-! operators -/
theorem so_bin {o : BOp} {a b : E} {ea eb : Expr} {pos : Pos} (hK : X.K = C.K) (ha : PE X ea (tB C sp a)) (hb : PE X eb (tB C sp b)) : PE X (.BinOp ea (bopOf o) eb pos) (tE C sp (.bin o a b)) := by
  refine (pe_op (op_bin o) ha hb).conv fun σ H Q q => ?_
  obtain ⟨cc, O, env, R, A, hv, k⟩ := q
  refine tB_use A hv fun x vx H1 r1 s1 e1 => ?_
  refine tB_use (A.same s1) r1 fun y vy H2 r2 s2 e2 => ?_
  rw [hK]
  exact opR_ok o ((A.dom.same s1).same s2) (e1.ext s2) e2 r2 fun p v H' r s e f => k p v H' r ((s1.trans s2).trans s) e fun _ => f.back (s1.trans s2)
theorem so_neg {a : E} {ea : Expr} {pos : Pos} (ha : PE X ea (tE C sp a)) : PE X (.UnaryOp .USub ea pos) (tE C sp (.neg a)) := by
  refine (pe_un un_neg ha).conv fun σ H Q q => ?_
  obtain ⟨cc, O, env, R, A, hv, k⟩ := q
  refine tE_use A hv fun x vx H1 r1 s1 e1 _ => ?_
  cases x <;> first | exact r1.elim | skip
  cases e1
  exact ⟨_, rfl, k _ _ H1 r1 s1 rfl (fun z => nomatch z)⟩
theorem so_cmp {o : COp} {a b : E} {ea eb : Expr} {pos : Pos} (hK : X.K = C.K) (hu : X.A.units + 65 < cLine) (hm : behindInMarks (copOf o) eb = false) (ha : PE X ea (tB C sp a)) (hb : PE X eb (tB C sp b)) : PE X (.Compare ea [copOf o] [eb] pos) (tE C sp (.cmp o a b)) := by
  refine (pe_cmpR (op_cmp hu o) ha hb hm).conv fun σ H Q q => ?_
  obtain ⟨cc, O, env, R, A, hv, k⟩ := q
  refine tB_use A hv fun x vx H1 r1 s1 e1 => ?_
  refine tB_use (A.same s1) r1 fun y vy H2 r2 s2 e2 => ?_
  rw [hK]
  exact cmpR_ok o (e1.ext s2) e2 r2 fun b r => k _ _ H2 r (s1.trans s2) rfl (fun z => nomatch z)
theorem so_chain {o o' : COp} {a b c : E} {ea eb ec : Expr} {pos : Pos} (hK : X.K = C.K) (hu : X.A.units + 65 < cLine) (hm : lastMarks [copOf o, copOf o'] [eb, ec] = false) (ha : PE X ea (tE C sp a)) (hb : PE X eb (tE C sp b)) (hc : PE X ec (tE C sp c)) :
    PE X (.Compare ea [copOf o, copOf o'] [eb, ec] pos) (tE C sp (.chain o o' a b c)) := by
  refine (pe_chain (op_cmp hu o) (op_cmp hu o') ha hb hc hm).conv fun σ H Q q => ?_
  obtain ⟨cc, O, env, R, A, hv, k⟩ := q
  refine tE_use A hv fun x vx H1 r1 s1 e1 _ => ?_
  refine tE_use (A.same s1) r1 fun y vy H2 r2 s2 e2 _ => ?_
  rw [hK]
  refine cmpR_ok o (.inl (e1.ext (Ext.same s2))) (.inl e2) r2 fun bb r => ?_
  refine ⟨bb, rfl, ?_⟩
  cases bb with
  | false =>
    rw [if_neg Bool.false_ne_true]
    exact k _ _ H2 r (s1.trans s2) rfl (fun z => nomatch z)
  | true =>
    rw [if_pos rfl]
    refine tE_use ((A.same s1).same s2) r fun z vz H4 r4 s4 e4 _ => ?_
    exact cmpR_ok o' (.inl (e2.ext (Ext.same s4))) (.inl e4) r4 fun b r => k _ _ H4 r ((s1.trans s2).trans s4) rfl (fun z => nomatch z)
theorem so_and2 {a b : E} {ea eb : Expr} {rest : List Expr} {pos : Pos} (ha : PE X ea (tE C sp a)) (hb : PE X (.BoolOp .And (eb :: rest) pos) (tE C sp b)) : PE X (.BoolOp .And (ea :: eb :: rest) pos) (tE C sp (.and2 a b)) := by
  refine (pe_and ha hb).conv fun σ H Q q => ?_
  obtain ⟨cc, O, env, R, A, hv, k⟩ := q
  refine tE_use A hv fun x vx H1 r1 s1 e1 _ => ?_
  cases x <;> first | exact r1.elim | skip
  rename_i c _
  cases e1
  refine ⟨c, rfl, ?_⟩
  cases c with
  | true =>
    rw [if_pos rfl]
    exact tE_use (A.same s1) r1 fun p v H' r s e _ => k p v H' r (s1.trans s) e (fun z => nomatch z)
  | false =>
    rw [if_neg Bool.false_ne_true]
    exact k _ _ H1 r1 s1 rfl (fun z => nomatch z)
theorem so_or2 {a b : E} {ea eb : Expr} {rest : List Expr} {pos : Pos} (ha : PE X ea (tE C sp a)) (hb : PE X (.BoolOp .Or (eb :: rest) pos) (tE C sp b)) : PE X (.BoolOp .Or (ea :: eb :: rest) pos) (tE C sp (.or2 a b)) := by
  refine (pe_or ha hb).conv fun σ H Q q => ?_
  obtain ⟨cc, O, env, R, A, hv, k⟩ := q
  refine tE_use A hv fun x vx H1 r1 s1 e1 _ => ?_
  cases x <;> first | exact r1.elim | skip
  rename_i c _
  cases e1
  refine ⟨c, rfl, ?_⟩
  cases c with
  | true =>
    rw [if_pos rfl]
    exact k _ _ H1 r1 s1 rfl (fun z => nomatch z)
  | false =>
    rw [if_neg Bool.false_ne_true]
    exact tE_use (A.same s1) r1 fun p v H' r s e _ => k p v H' r (s1.trans s) e (fun z => nomatch z)
theorem so_one {a e : E} {op : BoolOp} {ea : Expr} {pos : Pos} (he : ∀ env R, evP sp e env R → evP sp a env R) (hf : isFresh e = false) (ha : PE X ea (tE C sp a)) : PE X (.BoolOp op [ea] pos) (tE C sp e) := by
  refine (pe_one ha).conv fun σ H Q q => ?_
  obtain ⟨cc, O, env, R, A, hv, k⟩ := q
  exact tE_use A (he _ _ hv) fun p v H' r s e _ => k p v H' r s e (fun z => by rw [hf] at z; cases z)
theorem so_not {a : E} {ea : Expr} {pos : Pos} (ha : PE X ea (tE C sp a)) : PE X (.UnaryOp .Not ea pos) (tE C sp (.nott a)) := by
  refine (pe_not ha).conv fun σ H Q q => ?_
  obtain ⟨cc, O, env, R, A, hv, k⟩ := q
  refine tE_use A hv fun x vx H1 r1 s1 e1 _ => ?_
  cases x <;> first | exact r1.elim | skip
  cases e1
  exact ⟨_, rfl, k _ _ H1 r1 s1 rfl (fun z => nomatch z)⟩
theorem so_ife {t : T} {a b : E} {et ea eb : Expr} {pos : Pos} (ht : PT X et (tT C sp t)) (ha : PE X ea (tE C sp a)) (hb : PE X eb (tE C sp b)) : PE X (.IfExp et ea eb pos) (tE C sp (.ife t a b)) := by
  refine (pe_ifExp ht ha hb).conv fun σ H Q q => ?_
  obtain ⟨cc, O, env, R, A, hv, k⟩ := q
  refine ⟨cc, O, env, _, A, hv, fun c H1 r1 s1 => ?_⟩
  split at r1
  · rename_i hc
    rw [if_pos hc]
    exact tE_use (A.same s1) r1 fun p v H' r s e _ => k p v H' r (s1.trans s) e (fun z => nomatch z)
  · rename_i hc
    rw [if_neg hc]
    exact tE_use (A.same s1) r1 fun p v H' r s e _ => k p v H' r (s1.trans s) e (fun z => nomatch z)
/-! tuples and lists -/
theorem so_es_nil : PA X [] (tEs C sp .nil) := by
  refine pa_nil.conv fun σ H Q q => ?_
  obtain ⟨cc, O, env, R, A, hv, k⟩ := q
  exact k [] [] H hv (Same.refl H) rfl rfl
theorem so_es_cons {e : E} {es : Es} {a : Expr} {as : List Expr} (hs : starEach (a :: as) X.env = (false, eval a X.env) :: starEach as X.env) (h : PE X a (tE C sp e)) (hr : PA X as (tEs C sp es)) : PA X (a :: as) (tEs C sp (.cons e es)) := by
  refine (pa_cons h hr hs).conv fun σ H Q q => ?_
  obtain ⟨cc, O, env, R, A, hv, k⟩ := q
  refine tE_use A hv fun x vx H1 r1 s1 e1 _ => ?_
  refine ⟨cc, O, env, _, A.same s1, r1, fun l vs H2 r2 s2 e2 n2 => ?_⟩
  exact k _ _ H2 r2 (s1.trans s2) ⟨vx, vs, rfl, e1.ext (Ext.same s2), e2⟩ (by show l.length + 1 = lenEs es + 1; rw [n2])
theorem so_tup {es : Es} {as : List Expr} {x1 : Nat} {pos : Pos} (hl : lenEs es ≤ 100) (h : PA X as (tEs C sp es)) : PE X (.Tuple as x1 pos) (tE C sp (.tup es)) := by
  refine (pe_tup h).conv fun σ H Q q => ?_
  obtain ⟨cc, O, env, R, A, hv, k⟩ := q
  refine ⟨cc, O, env, _, A, hv, fun l vs H1 r1 s1 e1 n1 => ⟨by rw [e1.length, szl]; omega, fun p hp => ?_⟩⟩
  exact k _ _ _ r1 (s1.trans (same_new hp)) (new_tup (A.dom.same s1) hp e1) (fun z => nomatch z)
theorem so_lst {es : Es} {as : List Expr} {pos : Pos} (hl : lenEs es ≤ 100) (h : PA X as (tEs C sp es)) : PE X (.List as pos) (tE C sp (.lst es)) := by
  refine (pe_lst h).conv fun σ H Q q => ?_
  obtain ⟨cc, O, env, R, A, hv, k⟩ := q
  refine ⟨cc, O, env, _, A, hv, fun l vs H1 r1 s1 e1 n1 => ⟨by rw [e1.length, szl]; omega, fun p hp => ?_⟩⟩
  exact k _ _ _ r1 (s1.trans (same_new hp)) (new_list (A.dom.same s1) hp e1).1 fun _ => (new_list (A.dom.same s1) hp e1).2.back s1
/-! items, slices, fields -/
theorem so_ix {a b : E} {ea eb : Expr} {pos : Pos} (hK : X.K = C.K) (hp : PlainIx eb) (ha : PE X ea (tB C sp a)) (hb : PE X eb (tE C sp b)) : PE X (.Subscript ea eb pos) (tE C sp (.ix a b)) := by
  refine (pe_ix ix_seq ha hb hp).conv fun σ H Q q => ?_
  obtain ⟨cc, O, env, R, A, hv, k⟩ := q
  refine tB_use A hv fun x vx H1 r1 s1 e1 => ?_
  refine tE_use (A.same s1) r1 fun y vy H2 r2 s2 e2 _ => ?_
  rw [hK]
  exact ixR_ok (e1.ext s2) e2 r2 fun p v H' r s e => k p v H' r ((s1.trans s2).trans s) e (fun z => nomatch z)
/-- a part of a slice -/
def tEO (C : Cn) (sp : SpT) (o : EO) : L2.TO := fun σ H Q => ∃ cc O env R, At C cc O env σ H ∧ evO sp o env R ∧ ∀ i H', R i → Same H H' → Q i H'
theorem so_eo_none : PO X none (tEO C sp .none) := by
  refine ⟨fun pins s σ H Q I q => po_none.run pins s σ H Q I ?_⟩
  obtain ⟨cc, O, env, R, A, hv, k⟩ := q
  exact k none H hv (Same.refl H)
theorem so_eo_some {e : E} {a : Expr} (h : PE X a (tE C sp e)) : PO X (some a) (tEO C sp (.some e)) := by
  refine ⟨fun pins s σ H Q I q => (po_some h).run pins s σ H Q I ?_⟩
  obtain ⟨cc, O, env, R, A, hv, k⟩ := q
  refine tE_use A hv fun x vx H1 r1 s1 e1 _ => ?_
  cases x <;> first | exact r1.elim | skip
  cases e1
  exact ⟨_, rfl, k _ H1 r1 s1⟩
theorem so_sl {a : E} {lo hi : EO} {ea : Expr} {elo ehi : Option Expr} {pos p2 : Pos} (hK : X.K = C.K) (ha : PE X ea (tB C sp a)) (hl : PO X elo (tEO C sp lo)) (hh : PO X ehi (tEO C sp hi)) : PE X (.Subscript ea (.Slice elo ehi none p2) pos) (tE C sp (.sl a lo hi)) := by
  refine (pe_slice sl_any ha hl hh).conv fun σ H Q q => ?_
  obtain ⟨cc, O, env, R, A, hv, k⟩ := q
  refine tB_use A hv fun x vx H1 r1 s1 e1 => ?_
  refine ⟨cc, O, env, _, A.same s1, r1, fun i H2 r2 s2 => ?_⟩
  refine ⟨cc, O, env, _, (A.same s1).same s2, r2, fun j H3 r3 s3 => ?_⟩
  rw [hK]
  exact slR_ok (((A.dom.same s1).same s2).same s3) ((e1.ext s2).ext s3) r3 fun p v H' r s e f => k p v H' r (((s1.trans s2).trans s3).trans s) e fun _ => f.back ((s1.trans s2).trans s3)
theorem so_fld {a : E} {ea : Expr} {f : Nat} {s : Str} {pos : Pos} (hK : X.K = C.K) (hf : C.nm f = some s) (hb : attributeBase ea s X.env (eval ea X.env) = eval ea X.env) (inj : ∀ i j z, C.nm i = some z → C.nm j = some z → i = j) (ha : PE X ea (tE C sp a)) : PE X (.Attribute ea s pos) (tE C sp (.fld a f)) := by
  refine (pe_fld ha hb).conv fun σ H Q q => ?_
  obtain ⟨cc, O, env, R, A, hv, k⟩ := q
  refine tE_use A hv fun x vx H1 r1 s1 e1 _ => ?_
  cases x <;> first | exact r1.elim | skip
  rename_i c fs _
  obtain ⟨b, dx, fvs, rfl, h1, h2, h3⟩ := e1
  simp only [fldR] at r1
  split at r1
  · rename_i p e
    have look : ∀ {fs : List (Nat × PV)} {fvs : List (Str × V)}, RepF C O H1 c fs fvs → fs.lookup f = some p → ∃ v, fvs.lookup s = some v ∧ NoAttr C.K (C.ga c) s ∧ Rep C O H1 p v := by
      intro fs
      induction fs with
      | nil => intro _ _ e; cases e
      | cons q fs ih =>
        obtain ⟨k', p'⟩ := q
        intro fvs hr e
        obtain ⟨s', v', t, rfl, ⟨g1, g2⟩, g3, g4⟩ := hr
        by_cases hk : f = k'
        · subst hk
          rw [hf] at g1
          cases g1
          rw [List.lookup_cons_self] at e
          cases e
          exact ⟨v', List.lookup_cons_self, g2, g3⟩
        · have hs : (s == s') = false := by
            rw [beq_eq_false_iff_ne]
            rintro rfl
            exact hk (inj _ _ _ hf g1)
          have hk' : (f == k') = false := by rw [beq_eq_false_iff_ne]; exact hk
          rw [List.lookup_cons, hk'] at e
          obtain ⟨v, q1, q2, q3⟩ := ih g4 e
          exact ⟨v, by rw [List.lookup_cons, hs]; exact q1, q2, q3⟩
    obtain ⟨v, q1, q2, q3⟩ := look h3 e
    refine ⟨b, C.ga c, dx, fvs, v, rfl, h1.2, by rw [hK]; exact h2.2, by rw [hK]; exact q2, q1, k p v H1 r1 s1 q3 (fun z => nomatch z)⟩
  · exact r1.elim
end
end Lh
/-! E7: calls. -/
namespace Lh
open PySem PySem.Spec PyProof.Rows L2
/-! ### the shape of arguments -/
def plainA : Expr → Bool
  | .Starred .. => false
  | _ => true
theorem star1 {a : Expr} {as : List Expr} {env : PySem.Env} (h : plainA a = true) : starEach (a :: as) env = (false, eval a env) :: starEach as env := by
  cases a <;> first | rfl | cases h
theorem starN {pos : Pos} {env : PySem.Env} : ∀ {as : List Expr}, as.all plainA = true → (backTo pos (starEach as env)).any (·.1) = false
  | [], _ => rfl
  | a :: as, h => by
    rw [List.all_cons, Bool.and_eq_true] at h
    rw [star1 h.1]
    show (false || (backTo pos (starEach as env)).any (·.1)) = false
    rw [starN h.2]; rfl
theorem starAll {pos : Pos} {env : PySem.Env} : ∀ {as : List Expr}, as.all plainA = true → (backTo pos (starEach as env)).all (fun x => !x.1) = true
  | [], _ => rfl
  | a :: as, h => by
    rw [List.all_cons, Bool.and_eq_true] at h
    rw [star1 h.1]
    show (true && (backTo pos (starEach as env)).all (fun x => !x.1)) = true
    rw [starAll h.2]; rfl
section
variable {C : Cn} {sp : SpT} {X : Cx}
/-- one argument, borrowed -/
theorem sb_arg {a : E} {ea : Expr} {R : PV → Prop} (h : PE X ea (tB C sp a)) : PA X [ea] (tCons (tB C sp a) tNil) ∨ True := .inr trivial
theorem so_b1 {f : B1} {a : E} {ea : Expr} {x : Str} {p pos : Pos} (hK : X.K = C.K) (hc : X.calm = true) (hf : f ≠ .lenset) (hf2 : f ≠ .sortedset) (hg : Gl X x) (hm : X.mg x = none) (hv : bootBuiltins x = some (b1Val f)) (hn : x ≠ "__name__") (hdb : (x == ("__debug__" : Str)) = false) (hp : plainA ea = true)
    (ha : PE X ea (tB C sp a)) : PE X (.Call (.Name x p) [ea] [] pos) (tE C sp (.bi1 f a)) := by
  have hA := pa_cons ha pa_nil (star1 hp)
  have conv : ∀ σ H Q, tE C sp (.bi1 f a) σ H Q → tCB (rB1 X.K f) (tCons (tB C sp a) tNil) σ H Q := by
    intro σ H Q q
    obtain ⟨cc, O, env, R, A, hv, k⟩ := q
    refine tB_use A hv fun x vx H1 r1 s1 e1 => ?_
    show rB1 X.K f [vx] H1 Q
    rw [hK]
    exact bi1R_ok hf (A.dom.same s1) e1 r1 fun p v H' r s e fl => k p v H' r (s1.trans s) e fun _ => fl.back s1
  cases f with
  | len => exact (pe_callB (cr_b1 hc .len hf hf2) hg hm hv hA hn hdb (star1 hp) rfl).conv conv
  | list => exact (pe_callTy (cr_b1 hc .list hf hf2) hg hm hv hA hn hdb (star1 hp) rfl).conv conv
  | tuple => exact (pe_callTy (cr_b1 hc .tuple hf hf2) hg hm hv hA hn hdb (star1 hp) rfl).conv conv
  | int => exact (pe_callTy (cr_b1 hc .int hf hf2) hg hm hv hA hn hdb (star1 hp) rfl).conv conv
  | all => exact (pe_callB (cr_b1 hc .all hf hf2) hg hm hv hA hn hdb (star1 hp) rfl).conv conv
  | any => exact (pe_callB (cr_b1 hc .any hf hf2) hg hm hv hA hn hdb (star1 hp) rfl).conv conv
  | sum => exact (pe_callB (cr_b1 hc .sum hf hf2) hg hm hv hA hn hdb (star1 hp) rfl).conv conv
  | abs => exact (pe_callB (cr_b1 hc .abs hf hf2) hg hm hv hA hn hdb (star1 hp) rfl).conv conv
  | sorted => exact (pe_callB (cr_b1 hc .sorted hf hf2) hg hm hv hA hn hdb (star1 hp) rfl).conv conv
  | min => exact (pe_callB (cr_b1 hc .min hf hf2) hg hm hv hA hn hdb (star1 hp) rfl).conv conv
  | max => exact (pe_callB (cr_b1 hc .max hf hf2) hg hm hv hA hn hdb (star1 hp) rfl).conv conv
  | lenset => exact absurd rfl hf
  | sortedset => exact absurd rfl hf2
theorem so_min2 {a b : E} {ea eb : Expr} {x : Str} {p pos : Pos} (hc : X.calm = true) (hg : Gl X x) (hm : X.mg x = none) (hv : bootBuiltins x = some (.builtin "min")) (hn : x ≠ "__name__") (hdb : (x == ("__debug__" : Str)) = false) (hp : plainA ea = true) (hp2 : plainA eb = true)
    (ha : PE X ea (tE C sp a)) (hb : PE X eb (tE C sp b)) : PE X (.Call (.Name x p) [ea, eb] [] pos) (tE C sp (.bi2 .min a b)) := by
  refine (pe_callB (call_min2 hc) hg hm hv (pa_cons ha (pa_cons hb pa_nil (star1 hp2)) (star1 hp)) hn hdb (star1 hp) (starN (by simp [hp2]))).conv fun σ H Q q => ?_
  obtain ⟨cc, O, env, R, A, hv, k⟩ := q
  refine tE_use A hv fun x vx H1 r1 s1 e1 _ => ?_
  refine tE_use (A.same s1) r1 fun y vy H2 r2 s2 e2 _ => ?_
  cases x <;> first | exact r2.elim | skip
  cases y <;> first | exact r2.elim | skip
  cases e1; cases e2
  exact ⟨_, _, rfl, k _ _ H2 r2 (s1.trans s2) rfl (fun z => nomatch z)⟩
theorem so_max2 {a b : E} {ea eb : Expr} {x : Str} {p pos : Pos} (hc : X.calm = true) (hg : Gl X x) (hm : X.mg x = none) (hv : bootBuiltins x = some (.builtin "max")) (hn : x ≠ "__name__") (hdb : (x == ("__debug__" : Str)) = false) (hp : plainA ea = true) (hp2 : plainA eb = true)
    (ha : PE X ea (tE C sp a)) (hb : PE X eb (tE C sp b)) : PE X (.Call (.Name x p) [ea, eb] [] pos) (tE C sp (.bi2 .max a b)) := by
  refine (pe_callB (call_max2 hc) hg hm hv (pa_cons ha (pa_cons hb pa_nil (star1 hp2)) (star1 hp)) hn hdb (star1 hp) (starN (by simp [hp2]))).conv fun σ H Q q => ?_
  obtain ⟨cc, O, env, R, A, hv, k⟩ := q
  refine tE_use A hv fun x vx H1 r1 s1 e1 _ => ?_
  refine tE_use (A.same s1) r1 fun y vy H2 r2 s2 e2 _ => ?_
  cases x <;> first | exact r2.elim | skip
  cases y <;> first | exact r2.elim | skip
  cases e1; cases e2
  exact ⟨_, _, rfl, k _ _ H2 r2 (s1.trans s2) rfl (fun z => nomatch z)⟩
end
/-! ### calls of own functions -/
section
variable (C : Cn)
def ArgR (O : Addr → Prop) (H : Hp) (m : Md) (t : OV) (v : V) (f : List Addr) : Prop := match m with
  | .va => (match t with
    | .fz p => Rep C O H p v ∧ f = []
    | _ => False)
  | .bo => BoR C O H t v f
  | .io => OVR C O H t v f ∧ isFz t = false
def ArgsR (O : Addr → Prop) (H : Hp) : List Md → List OV → List V → List (List Addr) → Prop
  | [], ts, vs, fs => ts = [] ∧ vs = [] ∧ fs = []
  | m :: ms, ts, vs, fs => ∃ t ts' v vs' f fs', ts = t :: ts' ∧ vs = v :: vs' ∧ fs = f :: fs' ∧ ArgR C O H m t v f ∧ ArgsR O H ms ts' vs' fs'
def IoF : List Md → List (List Addr) → Addr → Prop
  | .io :: ms, f :: fs, a => a ∈ f ∨ IoF ms fs a
  | .va :: ms, _ :: fs, a => IoF ms fs a
  | .bo :: ms, _ :: fs, a => IoF ms fs a
  | _, _, _ => False
def OutsR (O : Addr → Prop) (H : Hp) : List Md → List OV → List V → List (List Addr) → Prop
  | [], os, vs, fs => os = [] ∧ fs = []
  | .io :: ms, os, vs, fs => ∃ o os' v vs' f fs', os = o :: os' ∧ vs = v :: vs' ∧ fs = f :: fs' ∧ (OVR C O H o v f ∧ isFz o = false) ∧ OutsR O H ms os' vs' fs'
  | .va :: ms, os, vs, fs => ∃ v vs' fs', vs = v :: vs' ∧ fs = [] :: fs' ∧ OutsR O H ms os vs' fs'
  | .bo :: ms, os, vs, fs => ∃ v vs' fs', vs = v :: vs' ∧ fs = [] :: fs' ∧ OutsR O H ms os vs' fs'
/-- position by position: what comes back has the footprint of before, or new things -/
def SubL (H : Hp) : List (List Addr) → List (List Addr) → Prop
  | [], [] => True
  | f :: fs, g :: gs => (∀ a ∈ g, a ∈ f ∨ H a = none) ∧ SubL H fs gs
  | _, _ => False
structure PostC (w : Bool) (O : Addr → Prop) (H : Hp) (O' : Addr → Prop) (H' : Hp) (ms : List Md) (fs fs' : List (List Addr)) (os : List OV) (vs : List V) (p : PV) (v : V) : Prop where
  grow : ∀ a, O a → O' a
  fresh : ∀ a, O' a → O a ∨ H a = none
  dom : DomO O' H'
  keep : ∀ b x, ¬ IoF ms fs b → H b = some x → H' b = some x
  rep : Rep C O' H' p v
  outs : OutsR C O' H' ms os vs fs'
  nd : fs'.flatten.Nodup
  sub : SubL H fs fs'
  inO : ∀ a ∈ fs'.flatten, O' a
  fr : w = true → FrL C O' H H' p v
def spF (sp : SpT) (j : Nat) (ms : List Md) : Sp := fun vs H Qv _ => ∃ O ts fs Qp, ArgsR C O H ms ts vs fs ∧ fs.flatten.Nodup ∧ (∀ a ∈ fs.flatten, O a) ∧ DomO O H ∧ sp j ts Qp ∧
  ∀ p os v H' O' fs', Qp p os → PostC C (C.ow j) O H O' H' ms fs fs' os vs p v → Qv v H'
end
theorem ArgsR.len {C : Cn} {O : Addr → Prop} {H : Hp} : ∀ {ms : List Md} {ts : List OV} {vs : List V} {fs : List (List Addr)}, ArgsR C O H ms ts vs fs → vs.length = ms.length
  | [], _, _, _, h => by obtain ⟨_, rfl, _⟩ := h; rfl
  | m :: ms, _, _, _, h => by obtain ⟨t, ts', v, vs', f, fs', rfl, rfl, rfl, _, h⟩ := h; simp [ArgsR.len h]
theorem ArgR.ext {C : Cn} {O O' : Addr → Prop} {H H' : Hp} {m : Md} {t : OV} {v : V} {f : List Addr} (e : ExtW O H O' H' f) (h : ArgR C O H m t v f) : ArgR C O' H' m t v f := by
  cases m with
  | va =>
    cases t with
    | fz p => exact ⟨h.1.ext e.1, h.2⟩
    | lst l => exact h.elim
    | obj c l => exact h.elim
  | bo => exact BoR.ext e h
  | io => exact ⟨h.1.ext e, h.2⟩
theorem ArgsR.ext {C : Cn} {O O' : Addr → Prop} {H H' : Hp} : ∀ {ms : List Md} {ts : List OV} {vs : List V} {fs : List (List Addr)}, (∀ f ∈ fs, ExtW O H O' H' f) → ArgsR C O H ms ts vs fs → ArgsR C O' H' ms ts vs fs
  | [], _, _, _, _, h => h
  | m :: ms, _, _, _, e, h => by
    obtain ⟨t, ts', v, vs', f, fs', rfl, rfl, rfl, h1, h2⟩ := h
    exact ⟨t, ts', v, vs', f, fs', rfl, rfl, rfl, h1.ext (e f (by simp)), ArgsR.ext (fun g m => e g (by simp [m])) h2⟩
/-- where an argument's footprint comes from -/
def keyOf : Md → E → Option Nat
  | .va, _ => none
  | _, .var i => some i
  | _, .ofld i _ => some i
  | _, _ => none
def keysOf : Es → List Md → List (Option Nat)
  | .nil, _ => []
  | .cons _ _, [] => []
  | .cons e es, m :: ms => keyOf m e :: keysOf es ms
def FpR (fp : Nat → List Addr) : List (Option Nat) → List (List Addr) → Prop
  | [], fs => fs = []
  | none :: ks, fs => ∃ fs', fs = [] :: fs' ∧ FpR fp ks fs'
  | some i :: ks, fs => ∃ f fs', fs = f :: fs' ∧ (f.Nodup ∧ ∀ a ∈ f, a ∈ fp i) ∧ FpR fp ks fs'
theorem FpR.mem {fp : Nat → List Addr} : ∀ {ks : List (Option Nat)} {fs : List (List Addr)} {a : Addr}, FpR fp ks fs → a ∈ fs.flatten → ∃ i, some i ∈ ks ∧ a ∈ fp i
  | [], _, _, h, m => by cases h; simp at m
  | none :: ks, _, _, h, m => by
    obtain ⟨fs', rfl, h⟩ := h
    simp only [List.flatten_cons, List.nil_append] at m
    obtain ⟨i, h1, h2⟩ := FpR.mem h m
    exact ⟨i, by simp [h1], h2⟩
  | some i :: ks, _, _, h, m => by
    obtain ⟨f, fs', rfl, h0, h⟩ := h
    rw [List.flatten_cons, List.mem_append] at m
    rcases m with m | m
    · exact ⟨i, by simp, h0.2 _ m⟩
    · obtain ⟨i, h1, h2⟩ := FpR.mem h m
      exact ⟨i, by simp [h1], h2⟩
def noDup : List (Option Nat) → Bool
  | [] => true
  | none :: ks => noDup ks
  | some i :: ks => !ks.contains (some i) && noDup ks
theorem FpR.nodup {fp : Nat → List Addr} (dis : ∀ i j a, i ≠ j → a ∈ fp i → a ∉ fp j) : ∀ {ks : List (Option Nat)} {fs : List (List Addr)}, noDup ks = true → FpR fp ks fs → fs.flatten.Nodup
  | [], _, _, h => by cases h; exact List.nodup_nil
  | none :: ks, _, n, h => by
    obtain ⟨fs', rfl, h⟩ := h
    simp only [List.flatten_cons, List.nil_append]
    exact FpR.nodup (ks := ks) dis n h
  | some i :: ks, _, n, h => by
    obtain ⟨f, fs', rfl, h0, h⟩ := h
    simp only [noDup, Bool.and_eq_true, Bool.not_eq_true'] at n
    rw [List.flatten_cons]
    refine List.nodup_append.mpr ⟨h0.1, FpR.nodup dis n.2 h, fun a ma b mb e => ?_⟩
    subst e
    obtain ⟨j, h1, h2⟩ := FpR.mem h mb
    have hij : i ≠ j := by
      rintro rfl
      have : ks.contains (some i) = true := by simpa using h1
      rw [this] at n
      exact absurd n.1 (by decide)
    exact dis i j a hij (h0.2 a ma) h2
section
variable (C : Cn) (sp : SpT)
def tAs (es : Es) (ms : List Md) : TA := fun σ H Q => ∃ cc O env fp R, SI C cc O env σ H fp ∧ evAs sp es ms env R ∧
  ∀ ts vs fs H', R ts → Same H H' → ArgsR C O H' ms ts vs fs → FpR fp (keysOf es ms) fs → Q vs H'
def tA (m : Md) (e : E) : TE := fun σ H Q => ∃ cc O env fp R, SI C cc O env σ H fp ∧ argR m e (evP sp e env) env R ∧
  ∀ t v f H', R t → Same H H' → ArgR C O H' m t v f → FpR fp [keyOf m e] [f] → Q v H'
end
section
variable {C : Cn} {sp : SpT} {X : Cx}
theorem objOf_slot {cc : CC} {O : Addr → Prop} {env : Env} {σ : L2.St} {H : Hp} {fp : Nat → List Addr} (I : SI C cc O env σ H fp) {i c : Nat} {fs : List (Nat × OF)} (h : objOf env i = some (c, fs)) :
    ∃ v, σ[i]? = some (some v) ∧ OVR C O H (.obj c fs) v (fp i) := by
  unfold objOf at h
  split at h
  · rename_i c' fs' e
    cases h
    obtain ⟨x, hx, v, rfl, h1, _⟩ := slot_of I e
    exact ⟨v, hx, h1⟩
  · rename_i c' fs' e
    cases h
    obtain ⟨x, hx, v, rfl, h1, _⟩ := slot_of I e
    exact ⟨v, hx, h1⟩
  · rename_i c' fs' e
    cases h
    obtain ⟨x, hx, v, rfl, h1⟩ := slot_of I e
    exact ⟨v, hx, h1⟩
  · cases h
theorem OFs.look {O : Addr → Prop} {H : Hp} {c f : Nat} {s : Str} (inj : ∀ i j z, C.nm i = some z → C.nm j = some z → i = j) (hf : C.nm f = some s) {x : OF} : ∀ {fs : List (Nat × OF)} {fvs : List (Str × V)} {fp : List Addr}, OFs C O H c fs fvs fp → fs.lookup f = some x →
    ∃ v f1, fvs.lookup s = some v ∧ NoAttr C.K (C.ga c) s ∧ OFR C O H x v f1 ∧ f1.Sublist fp
  | [], _, _, h, e => by cases e
  | (k, y) :: r, _, _, h, e => by
    obtain ⟨s', v', t, f1, f2, rfl, rfl, ⟨g1, g2⟩, g3, g4⟩ := h
    by_cases hk : f = k
    · subst hk
      rw [hf] at g1
      cases g1
      rw [List.lookup_cons_self] at e
      cases e
      exact ⟨v', f1, List.lookup_cons_self, g2, g3, List.sublist_append_left _ _⟩
    · have hs : (s == s') = false := by
        rw [beq_eq_false_iff_ne]
        rintro rfl
        exact hk (inj _ _ _ hf g1)
      have hk' : (f == k) = false := by rw [beq_eq_false_iff_ne]; exact hk
      rw [List.lookup_cons, hk'] at e
      obtain ⟨v, f3, q1, q2, q3, q4⟩ := OFs.look inj hf g4 e
      exact ⟨v, f3, by rw [List.lookup_cons, hs]; exact q1, q2, q3, q4.trans (List.sublist_append_right _ _)⟩
/-- a field of an object that is owned -/
theorem of_look {i f : Nat} {s : Str} {ea : Expr} {pos : Pos} (hK : X.K = C.K) (hf : C.nm f = some s) (inj : ∀ i j z, C.nm i = some z → C.nm j = some z → i = j) (hb : attributeBase ea s X.env (eval ea X.env) = eval ea X.env) (ha : PE X ea (tVar i)) :
    PE X (.Attribute ea s pos) (fun σ H Q => ∃ cc O env fp c fs x, SI C cc O env σ H fp ∧ objOf env i = some (c, fs) ∧ fs.lookup f = some x ∧ ∀ v f1, OFR C O H x v f1 → f1.Sublist (fp i) → Q v H) := by
  refine (pe_fld ha hb).conv fun σ H Q q => ?_
  obtain ⟨cc, O, env, fp, c, fs, x, I, ho, hl, k⟩ := q
  obtain ⟨v, hv, a, dx, fvs, f1, rfl, h1, h2, h3, h4⟩ := objOf_slot I ho
  obtain ⟨w, f3, q1, q2, q3, q4⟩ := h3.look inj hf hl
  exact ⟨_, hv, a, C.ga c, dx, fvs, w, rfl, h1, by rw [hK]; exact h2.2, by rw [hK]; exact q2, q1, k w f3 q3 (by rw [h4]; exact q4.trans (List.sublist_cons_self _ _))⟩
theorem so_ofld {i f : Nat} {s : Str} {ea : Expr} {pos : Pos} (hK : X.K = C.K) (hf : C.nm f = some s) (inj : ∀ i j z, C.nm i = some z → C.nm j = some z → i = j) (hb : attributeBase ea s X.env (eval ea X.env) = eval ea X.env) (ha : PE X ea (tVar i)) :
    PE X (.Attribute ea s pos) (tE C sp (.ofld i f)) := by
  refine (of_look (pos := pos) hK hf inj hb ha).conv fun σ H Q q => ?_
  obtain ⟨cc, O, env, R, A, hv, k⟩ := q
  obtain ⟨fp, I⟩ := A.ex
  simp only [evP, rdO] at hv
  split at hv
  · rename_i c fs e
    split at hv
    · rename_i p e2
      exact ⟨cc, O, env, fp, c, fs, _, I, e, e2, fun v f1 h1 _ => k p v H hv (Same.refl H) h1.1 (fun z => nomatch z)⟩
    · exact hv.elim
  · exact hv.elim
theorem sb_ofld {i f : Nat} {s : Str} {ea : Expr} {pos : Pos} (hK : X.K = C.K) (hf : C.nm f = some s) (inj : ∀ i j z, C.nm i = some z → C.nm j = some z → i = j) (hb : attributeBase ea s X.env (eval ea X.env) = eval ea X.env) (ha : PE X ea (tVar i)) :
    PE X (.Attribute ea s pos) (tB C sp (.ofld i f)) := by
  refine (of_look (pos := pos) hK hf inj hb ha).conv fun σ H Q q => ?_
  obtain ⟨cc, O, env, R, A, hv, k⟩ := q
  obtain ⟨fp, I⟩ := A.ex
  simp only [borR, rdOB] at hv
  split at hv
  · rename_i c fs e
    split at hv
    · rename_i p e2
      exact ⟨cc, O, env, fp, c, fs, _, I, e, e2, fun v f1 h1 _ => k p v H hv (Same.refl H) (.inl h1.1)⟩
    · rename_i l e2
      refine ⟨cc, O, env, fp, c, fs, _, I, e, e2, fun v f1 h1 _ => k _ v H hv (Same.refl H) ?_⟩
      obtain ⟨a, vs, rfl, h1, h2, _⟩ := h1
      exact .inr ⟨l, a, vs, rfl, rfl, h1, h2⟩
    · exact hv.elim
  · exact hv.elim
/-! arguments -/
theorem fpr_none {fp : Nat → List Addr} {m : Md} {e : E} (h : keyOf m e = none) : FpR fp [keyOf m e] [[]] := by
  rw [h]; exact ⟨[], rfl, rfl⟩
theorem fpr_nil {fp : Nat → List Addr} {m : Md} {e : E} : FpR fp [keyOf m e] [[]] := by
  cases h : keyOf m e with
  | none => exact ⟨[], rfl, rfl⟩
  | some i => exact ⟨[], [], rfl, ⟨List.nodup_nil, fun _ z => nomatch z⟩, rfl⟩
theorem fpr_some {fp : Nat → List Addr} {m : Md} {e : E} {i : Nat} {f : List Addr} (h : keyOf m e = some i) (hn : (fp i).Nodup) (hs : f.Sublist (fp i)) : FpR fp [keyOf m e] [f] := by
  rw [h]; exact ⟨f, [], rfl, ⟨hn.sublist hs, fun a m => hs.subset m⟩, rfl⟩
theorem sa_fz {m : Md} {e : E} {ea : Expr} (he : ∀ env (R : OV → Prop) k, argR m e k env R → k fun p => R (.fz p)) (hm : m ≠ .io) (h : PE X ea (tE C sp e)) : PE X ea (tA C sp m e) := by
  refine h.conv fun σ H Q q => ?_
  obtain ⟨cc, O, env, fp, R, I, hv, k⟩ := q
  refine tE_use ⟨fp, I⟩ (he _ _ _ hv) fun p v H' r s e' _ => k (.fz p) v [] H' r s ?_ fpr_nil
  cases m with
  | va => exact ⟨e', rfl⟩
  | bo => exact .inl ⟨e', rfl⟩
  | io => exact absurd rfl hm
theorem sa_va {e : E} {ea : Expr} (h : PE X ea (tE C sp e)) : PE X ea (tA C sp .va e) := sa_fz (fun env R k q => q) (fun z => nomatch z) h
theorem sa_bo {e : E} {ea : Expr} (h1 : ∀ i, e ≠ .var i) (h2 : ∀ i f, e ≠ .ofld i f) (h : PE X ea (tE C sp e)) : PE X ea (tA C sp .bo e) :=
  sa_fz (fun env R k q => by cases e <;> first | exact q | exact absurd rfl (h1 _) | exact absurd rfl (h2 _ _)) (fun z => nomatch z) h
theorem sa_boVar {i : Nat} {ea : Expr} (h : PE X ea (tVar i)) : PE X ea (tA C sp .bo (.var i)) := by
  refine h.conv fun σ H Q q => ?_
  obtain ⟨cc, O, env, fp, R, I, hv, k⟩ := q
  simp only [argR, rdT] at hv
  split at hv
  · rename_i p e
    obtain ⟨x, hx, v, rfl, hr, _⟩ := slot_of I e
    exact ⟨v, hx, k _ v [] H hv (Same.refl H) (.inl ⟨hr, rfl⟩) fpr_nil⟩
  · rename_i l e
    obtain ⟨x, hx, v, rfl, h1, _⟩ := slot_of I e
    exact ⟨_, hx, k _ _ (fp i) H hv (Same.refl H) (.inr ⟨l, rfl, h1⟩) (fpr_some rfl (I.nd i) (List.Sublist.refl _))⟩
  · rename_i l e
    obtain ⟨x, hx, v, rfl, h1, _⟩ := slot_of I e
    exact ⟨_, hx, k _ _ (fp i) H hv (Same.refl H) (.inr ⟨l, rfl, h1⟩) (fpr_some rfl (I.nd i) (List.Sublist.refl _))⟩
  · rename_i c fs e
    obtain ⟨x, hx, v, rfl, h1, _⟩ := slot_of I e
    exact ⟨_, hx, k _ _ (fp i) H hv (Same.refl H) h1 (fpr_some rfl (I.nd i) (List.Sublist.refl _))⟩
  · rename_i c fs e
    obtain ⟨x, hx, v, rfl, h1, _⟩ := slot_of I e
    exact ⟨_, hx, k _ _ (fp i) H hv (Same.refl H) h1 (fpr_some rfl (I.nd i) (List.Sublist.refl _))⟩
  · rename_i t e
    obtain ⟨x, hx, v, rfl, h1⟩ := slot_of I e
    exact ⟨_, hx, k _ _ (fp i) H hv (Same.refl H) h1 (fpr_some rfl (I.nd i) (List.Sublist.refl _))⟩
  · exact hv.elim
theorem sa_ioVar {i : Nat} {ea : Expr} (h : PE X ea (tVar i)) : PE X ea (tA C sp .io (.var i)) := by
  refine h.conv fun σ H Q q => ?_
  obtain ⟨cc, O, env, fp, R, I, hv, k⟩ := q
  simp only [argR, rdW] at hv
  split at hv
  · rename_i l e
    obtain ⟨x, hx, v, rfl, h1, h2⟩ := slot_of I e
    exact ⟨_, hx, k _ _ (fp i) H hv (Same.refl H) ⟨h1, h2⟩ (fpr_some rfl (I.nd i) (List.Sublist.refl _))⟩
  · rename_i l e
    obtain ⟨x, hx, v, rfl, h1, h2⟩ := slot_of I e
    exact ⟨_, hx, k _ _ (fp i) H hv (Same.refl H) ⟨h1, h2⟩ (fpr_some rfl (I.nd i) (List.Sublist.refl _))⟩
  · rename_i l e
    obtain ⟨x, hx, v, rfl, h1, h2⟩ := slot_of I e
    exact ⟨_, hx, k _ _ (fp i) H hv (Same.refl H) ⟨h1, h2⟩ (fpr_some rfl (I.nd i) (List.Sublist.refl _))⟩
  · rename_i l e
    obtain ⟨x, hx, v, rfl, h1, h2⟩ := slot_of I e
    exact ⟨_, hx, k _ _ (fp i) H hv (Same.refl H) ⟨h1, h2⟩ (fpr_some rfl (I.nd i) (List.Sublist.refl _))⟩
  · exact hv.elim
theorem sa_boOfld {i f : Nat} {s : Str} {ea : Expr} {pos : Pos} (hK : X.K = C.K) (hf : C.nm f = some s) (inj : ∀ i j z, C.nm i = some z → C.nm j = some z → i = j) (hb : attributeBase ea s X.env (eval ea X.env) = eval ea X.env) (ha : PE X ea (tVar i)) :
    PE X (.Attribute ea s pos) (tA C sp .bo (.ofld i f)) := by
  refine (of_look (pos := pos) hK hf inj hb ha).conv fun σ H Q q => ?_
  obtain ⟨cc, O, env, fp, R, I, hv, k⟩ := q
  simp only [argR, rdOB] at hv
  split at hv
  · rename_i c fs e
    split at hv
    · rename_i p e2
      exact ⟨cc, O, env, fp, c, fs, _, I, e, e2, fun v f1 h1 _ => k _ v [] H hv (Same.refl H) (.inl ⟨h1.1, rfl⟩) fpr_nil⟩
    · rename_i l e2
      exact ⟨cc, O, env, fp, c, fs, _, I, e, e2, fun v f1 h1 hs => k _ v f1 H hv (Same.refl H) (.inr ⟨l, rfl, h1⟩) (fpr_some rfl (I.nd i) hs)⟩
    · exact hv.elim
  · exact hv.elim
theorem sas_nil {ms : List Md} (hm : ms = []) : PA X [] (tAs C sp .nil ms) := by
  refine pa_nil.conv fun σ H Q q => ?_
  obtain ⟨cc, O, env, fp, R, I, hv, k⟩ := q
  subst hm
  exact k [] [] [] H hv (Same.refl H) ⟨rfl, rfl, rfl⟩ rfl
theorem fpr_cons {fp : Nat → List Addr} {k : Option Nat} {ks : List (Option Nat)} {f : List Addr} {fs : List (List Addr)} (h : FpR fp [k] [f]) (h2 : FpR fp ks fs) : FpR fp (k :: ks) (f :: fs) := by
  cases k with
  | none =>
    obtain ⟨z, e, _⟩ := h
    cases e
    exact ⟨fs, rfl, h2⟩
  | some i =>
    obtain ⟨g, z, e, h0, _⟩ := h
    cases e
    exact ⟨f, fs, rfl, h0, h2⟩
theorem sas_cons {m : Md} {ms : List Md} {e : E} {es : Es} {a : Expr} {as : List Expr} (hp : plainA a = true) (h : PE X a (tA C sp m e)) (hr : PA X as (tAs C sp es ms)) : PA X (a :: as) (tAs C sp (.cons e es) (m :: ms)) := by
  refine (pa_cons h hr (star1 hp)).conv fun σ H Q q => ?_
  obtain ⟨cc, O, env, fp, R, I, hv, k⟩ := q
  refine ⟨cc, O, env, fp, _, I, hv, fun t v f H1 r1 s1 a1 k1 => ?_⟩
  refine ⟨cc, O, env, fp, _, I.same s1, r1, fun ts vs fs H2 r2 s2 a2 k2 => ?_⟩
  exact k _ _ (f :: fs) H2 r2 (s1.trans s2) ⟨t, ts, v, vs, f, fs, rfl, rfl, rfl, a1.ext (ExtW.same s2), a2⟩ (fpr_cons k1 k2)
/-! a call that changes nothing that it was given -/
theorem noIo {ms : List Md} (h : ms.all (fun m => match m with | .io => false | _ => true) = true) : ∀ {fs : List (List Addr)} {a : Addr}, ¬ IoF ms fs a := by
  induction ms with
  | nil => intro fs a z; cases z
  | cons m ms ih =>
    rw [List.all_cons, Bool.and_eq_true] at h
    intro fs a z
    cases m with
    | io => cases h.1
    | va =>
      cases fs with
      | nil => exact z
      | cons f fs => exact ih h.2 z
    | bo =>
      cases fs with
      | nil => exact z
      | cons f fs => exact ih h.2 z
theorem spF_of {j : Nat} {ms : List Md} {es : Es} {σ : L2.St} {H1 : Hp} {Q : VK} {cc : CC} {O : Addr → Prop} {env : Env} {fp : Nat → List Addr} {R : PV → Prop} {ts : List OV} {vs : List V} {fs : List (List Addr)} {E : XK} (I : SI C cc O env σ H1 fp) (hm : ms.all (fun m => match m with | .io => false | _ => true) = true)
    (hd : noDup (keysOf es ms) = true) (h : sp j ts fun p _ => R p) (a : ArgsR C O H1 ms ts vs fs) (kf : FpR fp (keysOf es ms) fs) (k : ∀ p v H', R p → Same H1 H' → Rep C O H' p v → Q v H') : spF C sp j ms vs H1 Q E := by
  refine ⟨O, ts, fs, _, a, kf.nodup I.dis hd, fun a m => ?_, I.dom, h, fun p os v H' O' fs' r post => k p v H' r (fun b x e => post.keep b x (noIo hm) e) (post.rep.ext fun a x n e => ⟨fun o => n (post.grow a o), e⟩)⟩
  obtain ⟨i, _, m⟩ := kf.mem m
  exact I.inO i a m
theorem spF_ofO {j : Nat} {ms : List Md} {es : Es} {σ : L2.St} {H1 : Hp} {Q : VK} {cc : CC} {O : Addr → Prop} {env : Env} {fp : Nat → List Addr} {R : PV → Prop} {ts : List OV} {vs : List V} {fs : List (List Addr)} {E : XK} (hw : C.ow j = true) (I : SI C cc O env σ H1 fp) (hm : ms.all (fun m => match m with | .io => false | _ => true) = true)
    (hd : noDup (keysOf es ms) = true) (h : sp j ts fun p _ => R p) (a : ArgsR C O H1 ms ts vs fs) (kf : FpR fp (keysOf es ms) fs) (k : ∀ p v H', R p → Same H1 H' → Rep C O H' p v → FrL C O H1 H' p v → Q v H') : spF C sp j ms vs H1 Q E := by
  refine ⟨O, ts, fs, _, a, kf.nodup I.dis hd, fun a m => ?_, I.dom, h, fun p os v H' O' fs' r post => k p v H' r (fun b x e => post.keep b x (noIo hm) e) (post.rep.ext fun a x n e => ⟨fun o => n (post.grow a o), e⟩) fun l e => ?_⟩
  · obtain ⟨i, _, m⟩ := kf.mem m
    exact I.inO i a m
  · obtain ⟨a, vs, e1, e2, e3, e4⟩ := post.fr hw l e
    refine ⟨a, vs, e1, e2, e3, e4.ext fun b x n e => ⟨fun z => n ?_, e⟩⟩
    rcases z with z | z
    · exact .inl (post.grow b z)
    · exact .inr z
theorem so_callO {j k : Nat} {ms : List Md} {es : Es} {ea : Expr} {eas : List Expr} {x : Str} {f : Addr} {fd : FuncData} {ps : List Str} {p pos : Pos} (hw : C.ow j = true) (F : FnOk X.prog X.w X.K X.mg X.base CX0 k f fd ps (spF C sp j ms)) (hr : Room k X.A) (hg : Gl X x) (hmg : X.mg x = some (.ref f)) (hk : PySem.W.keepIn X.K (.ref f) = true)
    (hb : Binds X.K fd ps []) (hm : ms.all (fun m => match m with | .io => false | _ => true) = true) (hd : noDup (keysOf es ms) = true) (hp : (ea :: eas).all plainA = true) (hdb : (x == ("__debug__" : Str)) = false) (ha : PA X (ea :: eas) (tAs C sp es ms)) :
    PE X (.Call (.Name x p) (ea :: eas) [] pos) (tE C sp (.callO j ms es)) := by
  have hp1 : plainA ea = true := by rw [List.all_cons, Bool.and_eq_true] at hp; exact hp.1
  have hp2 : eas.all plainA = true := by rw [List.all_cons, Bool.and_eq_true] at hp; exact hp.2
  refine (pe_call F hr hg hmg hk hb .nil pass0 ha hdb (star1 hp1) (starN hp2)).conv fun σ H Q q => ?_
  obtain ⟨cc, O, env, R, A, hv, k⟩ := q
  obtain ⟨fp, I⟩ := A.ex
  refine ⟨cc, O, env, fp, _, I, hv, fun ts vs fs H1 r1 s1 a1 k1 => ?_⟩
  show spF C sp j ms (vs ++ []) H1 Q E0
  rw [List.append_nil]
  exact spF_ofO hw (I.same s1) hm hd r1 a1 k1 fun p v H' r s e fr => k p v H' r (s1.trans s) e (fun _ => fr.back s1)
theorem so_call {j k : Nat} {ms : List Md} {es : Es} {ea : Expr} {eas : List Expr} {x : Str} {f : Addr} {fd : FuncData} {ps : List Str} {p pos : Pos} (F : FnOk X.prog X.w X.K X.mg X.base CX0 k f fd ps (spF C sp j ms)) (hr : Room k X.A) (hg : Gl X x) (hmg : X.mg x = some (.ref f)) (hk : PySem.W.keepIn X.K (.ref f) = true)
    (hb : Binds X.K fd ps []) (hm : ms.all (fun m => match m with | .io => false | _ => true) = true) (hd : noDup (keysOf es ms) = true) (hp : (ea :: eas).all plainA = true) (hdb : (x == ("__debug__" : Str)) = false) (ha : PA X (ea :: eas) (tAs C sp es ms)) :
    PE X (.Call (.Name x p) (ea :: eas) [] pos) (tE C sp (.call j ms es)) := by
  have hp1 : plainA ea = true := by rw [List.all_cons, Bool.and_eq_true] at hp; exact hp.1
  have hp2 : eas.all plainA = true := by rw [List.all_cons, Bool.and_eq_true] at hp; exact hp.2
  refine (pe_call F hr hg hmg hk hb .nil pass0 ha hdb (star1 hp1) (starN hp2)).conv fun σ H Q q => ?_
  obtain ⟨cc, O, env, R, A, hv, k⟩ := q
  obtain ⟨fp, I⟩ := A.ex
  refine ⟨cc, O, env, fp, _, I, hv, fun ts vs fs H1 r1 s1 a1 k1 => ?_⟩
  show spF C sp j ms (vs ++ []) H1 Q E0
  rw [List.append_nil]
  exact spF_of (I.same s1) hm hd r1 a1 k1 fun p v H' r s e => k p v H' r (s1.trans s) e (fun z => nomatch z)
theorem so_call0 {j k : Nat} {x : Str} {f : Addr} {fd : FuncData} {ps : List Str} {p pos : Pos} (F : FnOk X.prog X.w X.K X.mg X.base CX0 k f fd ps (spF C sp j [])) (hr : Room k X.A) (hg : Gl X x) (hmg : X.mg x = some (.ref f)) (hk : PySem.W.keepIn X.K (.ref f) = true)
    (hb : Binds X.K fd ps []) (hdb : (x == ("__debug__" : Str)) = false) : PE X (.Call (.Name x p) [] [] pos) (tE C sp (.call j [] .nil)) := by
  refine (pe_call0 F hr hg hmg hk hb .nil pass0 hdb).conv fun σ H Q q => ?_
  obtain ⟨cc, O, env, R, A, hv, k⟩ := q
  obtain ⟨fp, I⟩ := A.ex
  show spF C sp j [] [] H Q E0
  exact spF_of (es := .nil) (fs := []) I rfl rfl hv ⟨rfl, rfl, rfl⟩ rfl fun p v H' r s e => k p v H' r s e (fun z => nomatch z)
end
end Lh
/-! E8: objects made, methods, keywords, isinstance, ranges. -/
namespace Lh
open PySem PySem.Spec PyProof.Rows L2
/-! ### making an object -/
section
variable {C : Cn} {sp : SpT} {X : Cx}
/-- O with the new object x -/
abbrev Ox (O : Addr → Prop) (x : Addr) : Addr → Prop := fun b => O b ∨ b ∈ [x]
theorem made_same {H : Hp} {x dx : Addr} {o1 o2 : HO} (h1 : H x = none) (h2 : H dx = none) : Same H (upd (upd H dx o1) x o2) := fun b y e => by
  rw [upd_ne (ne_of_none e h1), upd_ne (ne_of_none e h2)]; exact e
theorem made_ext {O : Addr → Prop} {H : Hp} {x dx : Addr} {o1 o2 : HO} (h1 : H x = none) (h2 : H dx = none) : Ext O H (Ox O x) (upd (upd H dx o1) x o2) := fun b y n e =>
  ⟨fun z => z.elim n (fun z => by rw [List.mem_singleton.mp z, h1] at e; cases e), made_same h1 h2 b y e⟩
/-- __init__ is called with a new object -/
theorem make_sp {j c : Nat} {ms : List Md} {H1 : Hp} {Q : VK} {O : Addr → Prop} {Rm : PV → List OV → Prop} {ts : List OV} {vs : List V} {fs : List (List Addr)} {E : XK} {x dx : Addr} (dom : DomO O H1) (hcl : C.Cl c) (hm : ms.all (fun m => match m with | .io => false | _ => true) = true)
    (h : sp j (.obj c [] :: ts) Rm) (a : ArgsR C O H1 ms ts vs fs) (nd : fs.flatten.Nodup) (inO : ∀ b ∈ fs.flatten, O b) (hx : H1 x = none) (hdx : H1 dx = none) (hne : dx ≠ x)
    (k : ∀ p t v H' O' f, Rm p [t] → Same H1 H' → (∀ b, O b → O' b) → (∀ b, O' b → O b ∨ H1 b = none) → DomO O' H' → OVR C O' H' t (.ref x) f → isFz t = false → f.Nodup → (∀ b ∈ f, H1 b = none) → (∀ b ∈ f, O' b) → Rep C O' H' p v → Q v H') :
    spF C sp j (.io :: ms) (.ref x :: vs) (upd (upd H1 dx (.own x)) x (.ins (C.ga c) dx [])) Q E := by
  have hO : ¬ O x := fun o => dom x o hx
  refine ⟨Ox O x, .obj c [] :: ts, [x] :: fs, Rm, ⟨_, ts, _, vs, [x], fs, rfl, rfl, rfl, ⟨⟨x, dx, [], [], rfl, upd_same, hcl, ⟨rfl, rfl⟩, rfl⟩, rfl⟩, ?_⟩, ?_, ?_, ?_, h, ?_⟩
  · exact a.ext fun f m => ⟨made_ext hx hdx, fun b y _ e => made_same hx hdx b y e⟩
  · rw [List.flatten_cons]
    refine List.nodup_append.mpr ⟨by simp, nd, fun b m1 b2 m2 e => ?_⟩
    subst e
    rw [List.mem_singleton.mp m1] at m2
    exact hO (inO _ m2)
  · intro b m
    rw [List.flatten_cons, List.mem_append] at m
    rcases m with m | m
    · exact .inr m
    · exact .inl (inO b m)
  · intro b o
    rcases o with o | o
    · exact (dom.same (made_same hx hdx)) b o
    · rw [List.mem_singleton.mp o, upd_same]; simp
  · intro p os v H' O' fs' r post
    have io : ∀ b, IoF (.io :: ms) ([x] :: fs) b → b = x := fun b z => by
      rcases z with z | z
      · exact List.mem_singleton.mp z
      · exact (noIo hm z).elim
    obtain ⟨o, os', v', vs', f, fs'', rfl, e1, rfl, ⟨h1, h2⟩, h3⟩ := post.outs
    cases e1
    have os0 : ∀ {ms : List Md} {os : List OV} {vs : List V} {fs : List (List Addr)}, ms.all (fun m => match m with | .io => false | _ => true) = true → OutsR C O' H' ms os vs fs → os = [] ∧ fs.flatten = [] := by
      intro ms
      induction ms with
      | nil => intro os vs fs _ h; exact ⟨h.1, by rw [h.2]; rfl⟩
      | cons m ms ih =>
        intro os vs fs hm h
        rw [List.all_cons, Bool.and_eq_true] at hm
        cases m with
        | io => cases hm.1
        | va => obtain ⟨v, vs', fs', rfl, rfl, h⟩ := h; exact ⟨(ih hm.2 h).1, by simpa using (ih hm.2 h).2⟩
        | bo => obtain ⟨v, vs', fs', rfl, rfl, h⟩ := h; exact ⟨(ih hm.2 h).1, by simpa using (ih hm.2 h).2⟩
    obtain ⟨rfl, e2⟩ := os0 hm h3
    have nx : ∀ b, (upd (upd H1 dx (.own x)) x (.ins (C.ga c) dx [])) b = none → H1 b = none := fun b z => (made_same hx hdx).free z
    refine k p o v H' O' f r (fun b y e => post.keep b y (fun z => ?_) (made_same hx hdx b y e)) (fun b o => post.grow b (.inl o)) (fun b o => ?_) post.dom h1 h2 ?_ (fun b m => ?_) (fun b m => post.inO b (by simp [m])) post.rep
    · rw [io b z, hx] at e; cases e
    · rcases post.fresh b o with z | z
      · rcases z with z | z
        · exact .inl z
        · rw [List.mem_singleton.mp z]; exact .inr hx
      · exact .inr (nx b z)
    · have := post.nd
      rw [List.flatten_cons] at this
      exact (List.nodup_append.mp this).1
    · rcases post.sub.1 b m with z | z
      · rw [List.mem_singleton.mp z]; exact hx
      · exact nx b z
theorem so_make {j c k : Nat} {ms : List Md} {es : Es} {ea : Expr} {eas : List Expr} {x : Str} {f : Addr} {fd : FuncData} {ps : List Str} {p pos : Pos} (hK : X.K = C.K) (M : Mk X.K (C.ga c) f) (hcl : C.Cl c) (F : FnOk X.prog X.w X.K X.mg X.base CX0 k f fd ps (spF C sp j (.io :: ms))) (hr : Room (k + 1) X.A)
    (hg : Gl X x) (hmg : X.mg x = some (.ref (C.ga c))) (hb : Binds X.K fd ps []) (hm : ms.all (fun m => match m with | .io => false | _ => true) = true) (hd : noDup (keysOf es ms) = true) (hp : (ea :: eas).all plainA = true) (hdb : (x == ("__debug__" : Str)) = false) (ha : PA X (ea :: eas) (tAs C sp es ms)) :
    PE X (.Call (.Name x p) (ea :: eas) [] pos) (tE C sp (.make c j ms es)) := by
  have hp1 : plainA ea = true := by rw [List.all_cons, Bool.and_eq_true] at hp; exact hp.1
  have hp2 : eas.all plainA = true := by rw [List.all_cons, Bool.and_eq_true] at hp; exact hp.2
  refine (pe_make M F hr hg hmg hb .nil pass0 ha hdb (star1 hp1) (starN hp2)).conv fun σ H Q q => ?_
  obtain ⟨cc, O, env, R, A, hv, k⟩ := q
  obtain ⟨fp, I⟩ := A.ex
  refine ⟨cc, O, env, fp, _, I, hv, fun ts vs fs H1 r1 s1 a1 k1 x dx hx hdx hne => ?_⟩
  show spF C sp j (.io :: ms) (.ref x :: (vs ++ [])) _ _ E0
  rw [List.append_nil]
  have I1 := I.same s1
  refine make_sp I1.dom hcl hm r1 a1 (k1.nodup I.dis hd) (fun b m => by obtain ⟨i, _, m⟩ := k1.mem m; exact I.inO i b m) hx hdx hne fun p t v H' O' f r s go fr dm ho hz hn hf hO' hp => ?_
  obtain ⟨rfl, fs2, e2, r2⟩ := r
  cases e2
  exact ⟨hp, k _ _ H' r2 (s1.trans s) (ho.frz (fun b y n e => ⟨fun o => n (go b o), e⟩) fun b m o => I1.dom b o (hf b m)) (fun z => nomatch z)⟩
theorem so_make0 {j c k : Nat} {x : Str} {f : Addr} {fd : FuncData} {ps : List Str} {p pos : Pos} (hK : X.K = C.K) (M : Mk X.K (C.ga c) f) (hcl : C.Cl c) (F : FnOk X.prog X.w X.K X.mg X.base CX0 k f fd ps (spF C sp j [.io])) (hr : Room (k + 1) X.A)
    (hg : Gl X x) (hmg : X.mg x = some (.ref (C.ga c))) (hb : Binds X.K fd ps []) (hdb : (x == ("__debug__" : Str)) = false) :
    PE X (.Call (.Name x p) [] [] pos) (tE C sp (.make c j [] .nil)) := by
  refine (pe_make0 M F hr hg hmg hb .nil pass0 hdb).conv fun σ H Q q => ?_
  obtain ⟨cc, O, env, R, A, hv, k⟩ := q
  obtain ⟨fp, I⟩ := A.ex
  show ∀ x dx, H x = none → H dx = none → dx ≠ x → spF C sp j [.io] (.ref x :: ([] ++ [])) _ _ E0
  intro x dx hx hdx hne
  refine make_sp (fs := []) I.dom hcl rfl hv ⟨rfl, rfl, rfl⟩ List.nodup_nil (fun b m => by simp at m) hx hdx hne fun p t v H' O' f r s go fr dm ho hz hn hf hO' hp => ?_
  obtain ⟨rfl, fs2, e2, r2⟩ := r
  cases e2
  exact ⟨hp, k _ _ H' r2 s (ho.frz (fun b y n e => ⟨fun o => n (go b o), e⟩) fun b m o => I.dom b o (hf b m)) (fun z => nomatch z)⟩
/-! ### keywords -/
theorem so_pk_nil : PK X [] (tEs C sp .nil) := by
  refine ⟨fun pos pins s σ H Q I q => pk_nil.run pos pins s σ H Q I ?_⟩
  obtain ⟨cc, O, env, R, A, hv, k⟩ := q
  exact k [] [] H hv (Same.refl H) rfl rfl
theorem so_pk_cons {e : E} {es : Es} {a : Expr} {ks : List Keyword} {nm : Option Str} {kpos : Pos} (h : PE X a (tE C sp e)) (hr : PK X ks (tEs C sp es)) : PK X (⟨nm, a, kpos⟩ :: ks) (tEs C sp (.cons e es)) := by
  refine ⟨fun pos pins s σ H Q I q => (pk_cons h hr).run pos pins s σ H Q I ?_⟩
  obtain ⟨cc, O, env, R, A, hv, k⟩ := q
  refine tE_use A hv fun x vx H1 r1 s1 e1 _ => ?_
  refine ⟨cc, O, env, _, A.same s1, r1, fun l vs H2 r2 s2 e2 n2 => ?_⟩
  exact k _ _ H2 r2 (s1.trans s2) ⟨vx, vs, rfl, e1.ext (Ext.same s2), e2⟩ (by show l.length + 1 = lenEs es + 1; rw [n2])
/-- a constant as a value -/
def cV : PV → Option V
  | .int i => some (.int i)
  | .bl b => some (.bl b)
  | .non => some .non
  | .str s => some (.str ⟨s.toArray⟩)
  | _ => none
theorem cV_rep {O : Addr → Prop} {H : Hp} {p : PV} {v : V} (h : cV p = some v) : Rep C O H p v := by
  cases p <;> first | (cases h; rfl) | cases h
def pickV (zs : List V) : List (Nat ⊕ PV) → Option (List V)
  | [] => some []
  | .inl n :: r => (match zs[n]? with
    | some v => (pickV zs r).map (v :: ·)
    | none => none)
  | .inr p :: r => (match cV p with
    | some v => (pickV zs r).map (v :: ·)
    | none => none)
theorem pick_rep {O : Addr → Prop} {H : Hp} {l : List PV} {zs : List V} (h : Reps C O H l zs) : ∀ {sel : List (Nat ⊕ PV)} {ds : List PV} {ws : List V}, pick l sel = some ds → pickV zs sel = some ws → ∃ ms fs, ArgsR C O H (List.replicate sel.length .va) (ds.map .fz) ws fs ∧ fs.flatten = [] ∧ ms = List.replicate sel.length Md.va
  | [], ds, ws, h1, h2 => by
    cases h1; cases h2
    exact ⟨[], [], ⟨rfl, rfl, rfl⟩, rfl, rfl⟩
  | .inl n :: r, ds, ws, h1, h2 => by
    simp only [pick] at h1
    split at h1
    · rename_i p e
      obtain ⟨v, e2, hr⟩ := h.get e
      simp only [pickV, e2, Option.map_eq_some_iff] at h1 h2
      obtain ⟨ds', h1, rfl⟩ := h1
      obtain ⟨ws', h2, rfl⟩ := h2
      obtain ⟨_, fs, q1, q2, _⟩ := pick_rep h h1 h2
      exact ⟨_, [] :: fs, ⟨_, _, _, _, _, _, rfl, rfl, rfl, ⟨hr, rfl⟩, q1⟩, q2, rfl⟩
    · cases h1
  | .inr p :: r, ds, ws, h1, h2 => by
    simp only [pick, Option.map_eq_some_iff] at h1
    simp only [pickV] at h2
    split at h2
    · rename_i v e
      simp only [Option.map_eq_some_iff] at h2
      obtain ⟨ds', h1, rfl⟩ := h1
      obtain ⟨ws', h2, rfl⟩ := h2
      obtain ⟨_, fs, q1, q2, _⟩ := pick_rep h h1 h2
      exact ⟨_, [] :: fs, ⟨_, _, _, _, _, _, rfl, rfl, rfl, ⟨cV_rep e, rfl⟩, q1⟩, q2, rfl⟩
    · cases h2
theorem ArgsR.append {O : Addr → Prop} {H : Hp} : ∀ {ms ms' : List Md} {ts ts' : List OV} {vs vs' : List V} {fs fs' : List (List Addr)}, ArgsR C O H ms ts vs fs → ArgsR C O H ms' ts' vs' fs' → ArgsR C O H (ms ++ ms') (ts ++ ts') (vs ++ vs') (fs ++ fs')
  | [], _, _, _, _, _, _, _, h, k => by obtain ⟨rfl, rfl, rfl⟩ := h; exact k
  | m :: ms, _, _, _, _, _, _, _, h, k => by
    obtain ⟨t, ts1, v, vs1, f, fs1, rfl, rfl, rfl, h1, h2⟩ := h
    exact ⟨t, _, v, _, f, _, rfl, rfl, rfl, h1, ArgsR.append h2 k⟩
/-- how the keywords of a call bind -/
def KwB (X : Cx) (fd : FuncData) (ps : List Str) (n : Nat) (ks : List Str) (sel : List (Nat ⊕ PV)) : Prop := ∃ g gV, KBn X.K fd ps n ks g gV ∧ ∀ vs zs : List V, vs.length = n → zs.length = ks.length → ∃ ws, pickV zs sel = some ws ∧ gV vs zs = vs ++ ws
theorem va_all (n : Nat) : (List.replicate n Md.va).all (fun m => match m with | .io => false | _ => true) = true := by
  induction n with
  | zero => rfl
  | succ n ih => rw [List.replicate_succ, List.all_cons, ih]; rfl
theorem all_app {ms ms' : List Md} (h : ms.all (fun m => match m with | .io => false | _ => true) = true) (h' : ms'.all (fun m => match m with | .io => false | _ => true) = true) : (ms ++ ms').all (fun m => match m with | .io => false | _ => true) = true := by
  rw [List.all_append, h, h']; rfl
theorem so_callk {j k : Nat} {ms : List Md} {es ks : Es} {sel : List (Nat ⊕ PV)} {ea : Expr} {eas : List Expr} {kws : List Keyword} {kn : List Str} {x : Str} {f : Addr} {fd : FuncData} {ps : List Str} {p pos : Pos} (F : FnOk X.prog X.w X.K X.mg X.base CX0 k f fd ps (spF C sp j (ms ++ List.replicate sel.length .va))) (hr : Room k X.A)
    (hg : Gl X x) (hmg : X.mg x = some (.ref f)) (hk : PySem.W.keepIn X.K (.ref f) = true) (hb : KwB X fd ps ms.length kn sel) (hm : ms.all (fun m => match m with | .io => false | _ => true) = true) (hd : noDup (keysOf es ms) = true) (hp : (ea :: eas).all plainA = true) (hdb : (x == ("__debug__" : Str)) = false)
    (hl : lenEs ks = kn.length) (ha : PA X (ea :: eas) (tAs C sp es ms)) (hkw : PK X kws (tEs C sp ks)) (hall : (backToKw pos (keywordEach kws X.env)).all (·.1.isSome) = true) (hks : (backToKw pos (keywordEach kws X.env)).filterMap (·.1) = kn)
    (hpl : ((backTo pos (starEach (ea :: eas) X.env)).any (·.1) || (backToKw pos (keywordEach kws X.env)).any (·.1.isNone)) = false) : PE X (.Call (.Name x p) (ea :: eas) kws pos) (tE C sp (.callk j ms es ks sel)) := by
  have hp1 : plainA ea = true := by rw [List.all_cons, Bool.and_eq_true] at hp; exact hp.1
  obtain ⟨g, gV, hB, hG⟩ := hb
  refine (pe_callN F hr hg hmg hk hB pass0 ha hkw hall hks hdb (star1 hp1) hpl).conv fun σ H Q q => ?_
  obtain ⟨cc, O, env, R, A, hv, k⟩ := q
  obtain ⟨fp, I⟩ := A.ex
  refine ⟨cc, O, env, fp, _, I, hv, fun ts vs fs H1 r1 s1 a1 k1 => ?_⟩
  refine ⟨cc, O, env, _, ⟨fp, I.same s1⟩, r1, fun l zs H2 r2 s2 e2 n2 => ?_⟩
  obtain ⟨ds, h1, r3⟩ := r2
  have lv := a1.len
  have lz : zs.length = kn.length := by rw [e2.length, n2, hl]
  obtain ⟨ws, g1, g2⟩ := hG vs zs lv lz
  refine ⟨lv, lz, ?_⟩
  rw [g2]
  obtain ⟨_, fs', q1, q2, _⟩ := pick_rep e2 h1 g1
  have I2 := (I.same s1).same s2
  refine ⟨O, ts ++ ds.map .fz, fs ++ fs', _, (a1.ext fun f m => ExtW.same s2).append q1, ?_, ?_, I2.dom, r3, fun p os v H' O' fs' r post => k p v H' r ((s1.trans s2).trans (fun b x e => post.keep b x (noIo (all_app hm (va_all _))) e)) (post.rep.ext fun a x n e => ⟨fun o => n (post.grow a o), e⟩) (fun z => nomatch z)⟩
  · rw [List.flatten_append, q2, List.append_nil]; exact k1.nodup I.dis hd
  · rw [List.flatten_append, q2, List.append_nil]
    intro a m
    obtain ⟨i, _, m⟩ := k1.mem m
    exact I.inO i a m
theorem so_makek {j c k : Nat} {ms : List Md} {es ks : Es} {sel : List (Nat ⊕ PV)} {ea : Expr} {eas : List Expr} {kws : List Keyword} {kn : List Str} {x : Str} {f : Addr} {fd : FuncData} {ps : List Str} {p pos : Pos} (hK : X.K = C.K) (M : Mk X.K (C.ga c) f) (hcl : C.Cl c)
    (F : FnOk X.prog X.w X.K X.mg X.base CX0 k f fd ps (spF C sp j (.io :: (ms ++ List.replicate sel.length .va)))) (hr : Room (k + 1) X.A) (hg : Gl X x) (hmg : X.mg x = some (.ref (C.ga c))) (hb : KwB X fd ps (ms.length + 1) kn sel)
    (hm : ms.all (fun m => match m with | .io => false | _ => true) = true) (hd : noDup (keysOf es ms) = true) (hp : (ea :: eas).all plainA = true) (hdb : (x == ("__debug__" : Str)) = false)
    (hl : lenEs ks = kn.length) (ha : PA X (ea :: eas) (tAs C sp es ms)) (hkw : PK X kws (tEs C sp ks)) (hall : (backToKw pos (keywordEach kws X.env)).all (·.1.isSome) = true) (hks : (backToKw pos (keywordEach kws X.env)).filterMap (·.1) = kn)
    (hpl : ((backTo pos (starEach (ea :: eas) X.env)).any (·.1) || (backToKw pos (keywordEach kws X.env)).any (·.1.isNone)) = false) : PE X (.Call (.Name x p) (ea :: eas) kws pos) (tE C sp (.makek c j ms es ks sel)) := by
  have hp1 : plainA ea = true := by rw [List.all_cons, Bool.and_eq_true] at hp; exact hp.1
  obtain ⟨g, gV, hB, hG⟩ := hb
  refine (pe_makeK M F hr hg hmg hB pass0 ha hkw hall hks hdb (star1 hp1) hpl).conv fun σ H Q q => ?_
  obtain ⟨cc, O, env, R, A, hv, k⟩ := q
  obtain ⟨fp, I⟩ := A.ex
  refine ⟨cc, O, env, fp, _, I, hv, fun ts vs fs H1 r1 s1 a1 k1 => ?_⟩
  refine ⟨cc, O, env, _, ⟨fp, I.same s1⟩, r1, fun l zs H2 r2 s2 e2 n2 => ?_⟩
  obtain ⟨ds, h1, r3⟩ := r2
  have lv := a1.len
  have lz : zs.length = kn.length := by rw [e2.length, n2, hl]
  refine ⟨lv, lz, fun x dx hx hdx hne => ?_⟩
  obtain ⟨ws, g1, g2⟩ := hG (.ref x :: vs) zs (by simp [lv]) lz
  rw [g2]
  obtain ⟨_, fs', q1, q2, _⟩ := pick_rep e2 h1 g1
  have I2 := (I.same s1).same s2
  refine make_sp I2.dom hcl (all_app hm (va_all _)) r3 ((a1.ext fun f m => ExtW.same s2).append q1) ?_ ?_ hx hdx hne fun p t v H' O' f r s go fr dm ho hz hn hf hO' hp => ?_
  · rw [List.flatten_append, q2, List.append_nil]; exact k1.nodup I.dis hd
  · rw [List.flatten_append, q2, List.append_nil]
    intro a m
    obtain ⟨i, _, m⟩ := k1.mem m
    exact I.inO i a m
  obtain ⟨rfl, fs2, e3, r4⟩ := r
  cases e3
  exact ⟨hp, k _ _ H' r4 ((s1.trans s2).trans s) (ho.frz (fun b y n e => ⟨fun o => n (go b o), e⟩) fun b m o => I2.dom b o (hf b m)) (fun z => nomatch z)⟩
end
end Lh
/-! E9: what loops and comprehensions walk. -/
namespace Lh
open PySem PySem.Spec PyProof.Rows L2
/-! ### a list or a tuple as a source (k: a tuple) -/
def Src (K : PySem.W.Frag) (k : Bool) (H : Hp) (a : Addr) (xs : List V) : Prop := match k with
  | true => SqT K H a xs
  | false => SqL K H a xs
def itP (k : Bool) (h : Heap) (it a : Addr) (i : Nat) : Prop := match k with
  | true => h.IsTupleIter it a i
  | false => h.IsListIter it a i
def seqP (k : Bool) (h : Heap) (a : Addr) (items : Array Value) : Prop := match k with
  | true => h.IsTuple a items
  | false => h.IsList a items
theorem src_at {X : Cx} {pins : List (Addr × Obj)} {σ : L2.St} {H : Hp} {s : Shared} (I : Inv X pins σ H s) {k : Bool} {a : Addr} {xs : List V} (h : Src X.K k H a xs) : ∃ its, Vals xs its ∧ seqP k s.heap a its.toArray ∧ a < s.heap.objs.size := by
  cases k with
  | true => obtain ⟨its, rv, p, _⟩ := I.tuple h; exact ⟨its, rv, p, p.lt⟩
  | false => obtain ⟨its, rv, p, _⟩ := I.list h; exact ⟨its, rv, p.isList, p.lt⟩
theorem src_inj {X : Cx} {pins : List (Addr × Obj)} {σ : L2.St} {H : Hp} {s : Shared} (I : Inv X pins σ H s) {k : Bool} {a : Addr} {xs ys : List V} (h : Src X.K k H a xs) (h' : Src X.K k H a ys) : xs = ys := by
  cases k with
  | true => exact I.tuple_inj h h'
  | false => exact I.list_inj h h'
theorem itP_at {k : Bool} {h h' : Heap} {it a : Addr} {i : Nat} (x : itP k h it a i) (e : ∀ o, h.get? it = some o → h'.get? it = some o) : itP k h' it a i := by
  cases k with
  | true => exact Heap.IsTupleIter.at x e
  | false => exact Heap.IsListIter.at x e
theorem itP_ob {k : Bool} {h : Heap} {it a : Addr} {i : Nat} (x : itP k h it a i) : ∃ o, h.get? it = some o ∧ ∀ v, o.data ≠ .cell v := by
  cases k with
  | true => obtain ⟨o, e, _, d⟩ := x; exact ⟨o, e, fun v q => by rw [d] at q; cases q⟩
  | false => obtain ⟨o, e, _, d⟩ := x; exact ⟨o, e, fun v q => by rw [d] at q; cases q⟩
def itO (k : Bool) (a : Addr) : Obj := match k with
  | true => { cls := .type "tuple_iterator", data := .fields #[.ref a, .int 0 0] }
  | false => { cls := .type "list_iterator", data := .fields #[.ref a, .int 0 0] }
theorem itO_at {k : Bool} {h : Heap} {it a : Addr} (e : h.get? it = some (itO k a)) : itP k h it a 0 := by
  cases k with
  | true => exact ⟨_, e, rfl, rfl⟩
  | false => exact ⟨_, e, rfl, rfl⟩
theorem begins (k : Bool) (a : Addr) (items : Array Value) : Begins (.ref a) (itO k a) fun h => seqP k h a items := by
  cases k with
  | true => exact begins_tuple a items
  | false => exact begins_list a items
theorem draws {prog : Program} {w : World} {A : Around} (hh : A.handled = none) (k : Bool) (it a : Addr) (hne : a ≠ it) (items : Array Value) :
    Draws prog w A it [it, a] items.size (fun i v => items[i]? = some v) (fun i h => itP k h it a i ∧ seqP k h a items) := by
  cases k with
  | true => exact Draws.tuple hh it a hne items
  | false => exact Draws.list hh it a hne items
/-! ### zip -/
def ItZ (K : PySem.W.Frag) (k k' : Bool) (a b : Addr) : L2.It :=
  ⟨fun i H => ∃ (xs ys : List V) (x y : V), Src K k H a xs ∧ Src K k' H b ys ∧ xs[i]? = some x ∧ ys[i]? = some y,
    fun i H v H' => ∃ T x y, v = .ref T ∧ H T = none ∧ H' = upd H T (.tup [x, y]) ∧ (∀ xs, Src K k H a xs → xs[i]? = some x) ∧ ∀ ys, Src K k' H b ys → ys[i]? = some y,
    fun i H => ∃ xs ys : List V, Src K k H a xs ∧ Src K k' H b ys ∧ i = min xs.length ys.length⟩
theorem turn_zipX {P : Program} {w : World} {K : PySem.W.Frag} {elts : List Expr} {kk : Nat} {tpos : Pos} {k k' : Bool} {a b z TI TO i1 i2 : Addr} (S : ZipSep2 z TI TO i1 i2 [i1, a] [i2, b]) (ne1 : a ≠ i1) (ne2 : b ≠ i2) :
    Turn P w K (.Tuple elts kk tpos) (ItZ K k k' a b) [z, TI, TO, i1, i2] z (fun i h => IsZip h z TI TO .none ∧ IsTupOf2 h TI (.ref i1) (.ref i2) ∧ (∃ x y, IsTupOf2 h TO x y) ∧ itP k h i1 a i ∧ itP k' h i2 b i) where
  mem := by simp
  obj := fun i h st c hc => by
    obtain ⟨hz9, hTI9, ⟨x, y, hTO9⟩, h1, h2⟩ := st
    have e' : c = z ∨ c = TI ∨ c = TO ∨ c = i1 ∨ c = i2 := by simpa using hc
    rcases e' with rfl | rfl | rfl | rfl | rfl
    · exact ⟨_, hz9, fun v q => nomatch q⟩
    · exact ⟨_, hTI9, fun v q => nomatch q⟩
    · exact ⟨_, hTO9, fun v q => nomatch q⟩
    · exact itP_ob h1
    · exact itP_ob h2
  keep := fun i h h' st kp => by
    obtain ⟨hz9, hTI9, ⟨x, y, hTO9⟩, h1, h2⟩ := st
    exact ⟨kp z (by simp) _ hz9, kp TI (by simp) _ hTI9, ⟨x, y, kp TO (by simp) _ hTO9⟩, itP_at h1 fun o q => kp i1 (by simp) o q, itP_at h2 fun o q => kp i2 (by simp) o q⟩
  item := by
    intro X hP9 hw9 hK9 hc i pins s σ H E I hf9 st hg9
    subst hP9 hw9 hK9
    obtain ⟨hz9, hTI9, hTO9, h1, h2⟩ := st
    obtain ⟨xs, ys, x, y, hqx9, hqy9, hx, hy⟩ := hg9
    obtain ⟨its, rv, p, _⟩ := src_at I hqx9
    obtain ⟨its2, rv2, p2, _⟩ := src_at I hqy9
    have hh : X.A.in1.handled = none := I.ok.hd hc
    have W := WalksT.zipD2 (prog := X.prog) (w := X.w) (A := X.A) S (draws hh k i1 a ne1 its.toArray) (draws hh k' i2 b ne2 its2.toArray)
    have n1 : i < its.toArray.size := by rw [List.size_toArray, ← rv.length]; exact (List.getElem?_eq_some_iff.mp hx).1
    have n2 : i < its2.toArray.size := by rw [List.size_toArray, ← rv2.length]; exact (List.getElem?_eq_some_iff.mp hy).1
    refine W.item i s _ E (by omega) ⟨hz9, hTI9, hTO9, ⟨h1, p⟩, ⟨h2, p2⟩⟩ fun T vals h' tk hv hsz hT hm hk => ?_
    obtain ⟨u, u2, hu, hu2, rfl⟩ := hv
    obtain ⟨u', hu', ru⟩ := rv.get hx
    obtain ⟨u2', hu2', ru2⟩ := rv2.get hy
    rw [List.getElem?_toArray] at hu hu2
    rw [hu] at hu'; rw [hu2] at hu2'
    cases hu'; cases hu2'
    refine ⟨_, rfl, W.go elts kk tpos i T { s with heap := h', toks := tk } _ E hm fun h'' st' hk' => ?_⟩
    obtain ⟨z1, z2, z3, ⟨z4, _⟩, ⟨z5, _⟩⟩ := st'
    have nT : T ∉ [z, TO, i1, i2] := W.apart i T h' hm
    obtain ⟨oT, eT, cT, nn, dT⟩ := hT
    have new : ObjOk X.prog X.w (upd H T (.tup [x, y])) h'' T (.tup [x, y]) :=
      ⟨by show 2 ≤ sizeLine; rw [sizeLine_eq]; decide, [u, u2], .cons ru (.cons ru2 .nil), ⟨oT, hk' T oT nT eT, cT, nn, dT⟩⟩
    have fz : ∀ c ∈ [z, TO, i1, i2], FpOk X pins H c := fun c m => hf9 c (by simp at m ⊢; rcases m with rfl | rfl | rfl | rfl <;> simp)
    have I1 : Inv X pins σ (upd H T (.tup [x, y])) { s with heap := h'', toks := tk } := I.turnedNew (ch := [z, TO, i1, i2]) (fun c o hb q => hk' c o hb (hk c o hb q)) fz hsz new
    have hn : H T = none := I.hok.fresh hsz
    refine ⟨.ref T, _, I1, rfl, ⟨T, x, y, rfl, hn, rfl, fun l hl => by rw [src_inj I hl hqx9]; exact hx, fun l hl => by rw [src_inj I hl hqy9]; exact hy⟩, ⟨z1, z2, z3, z4, z5⟩, fun c hcm9 => ?_⟩
    have e0 := (hf9 c hcm9).1
    obtain ⟨oc, ec⟩ : ∃ o, s.heap.get? c = some o := by
      have e' : c = z ∨ c = TI ∨ c = TO ∨ c = i1 ∨ c = i2 := by simpa using hcm9
      rcases e' with rfl | rfl | rfl | rfl | rfl
      · exact ⟨_, hz9⟩
      · exact ⟨_, hTI9⟩
      · obtain ⟨_, _, q⟩ := hTO9; exact ⟨_, q⟩
      · obtain ⟨o, q, _⟩ := itP_ob h1; exact ⟨o, q⟩
      · obtain ⟨o, q, _⟩ := itP_ob h2; exact ⟨o, q⟩
    have : c < s.heap.objs.size := Heap.lt_size ec
    rw [upd_ne (Nat.ne_of_lt (Nat.lt_of_lt_of_le this hsz))]
    exact e0
  done := by
    intro X hP9 hw9 hK9 hc i pins s σ H E I hf9 st hg9
    subst hP9 hw9 hK9
    obtain ⟨hz9, hTI9, hTO9, h1, h2⟩ := st
    obtain ⟨xs, ys, hqx9, hqy9, hend9⟩ := hg9
    obtain ⟨its, rv, p, _⟩ := src_at I hqx9
    obtain ⟨its2, rv2, p2, _⟩ := src_at I hqy9
    have hh : X.A.in1.handled = none := I.ok.hd hc
    have W := WalksT.zipD2 (prog := X.prog) (w := X.w) (A := X.A) S (draws hh k i1 a ne1 its.toArray) (draws hh k' i2 b ne2 its2.toArray)
    have en : i = min its.toArray.size its2.toArray.size := by rw [hend9, rv.length, rv2.length]; simp
    subst en
    have fz : ∀ c ∈ [z, TO, i1, i2], FpOk X pins H c := fun c m => hf9 c (by simp at m ⊢; rcases m with rfl | rfl | rfl | rfl <;> simp)
    exact W.done s _ E ⟨hz9, hTI9, hTO9, ⟨h1, p⟩, ⟨h2, p2⟩⟩ fun h' tk hk => ⟨rfl, I.turnedL (ch := [z, TO, i1, i2]) hk fz⟩
  self := fun B j t R F st q => wpAny_pyIter_zip st.1 q
def iZipX (K : PySem.W.Frag) (ta : TA) : TI := fun σ H R => ta σ H fun vs H1 => ∃ (k k' : Bool) (a b : Addr) (xs ys : List V), vs = [.ref a, .ref b] ∧ Src K k H1 a xs ∧ Src K k' H1 b ys ∧ R (ItZ K k k' a b) H1
theorem pi_zipX {X : Cx} {e e2 : Expr} {ta : TA} {p pos tpos : Pos} {elts : List Expr} {kk : Nat} (hg9 : Gl X "zip") (hm : X.mg "zip" = none) (ha : PA X [e, e2] ta) (p1 : plainA e = true) (p2 : plainA e2 = true) :
    PI X (.Tuple elts kk tpos) (.Call (.Name "zip" p) [e, e2] [] pos) (iZipX X.K ta) := by
  refine ⟨fun pins s σ H R I h => ?_⟩
  refine Call_ (ld_blt I hg9 hm PyProof.Rows.boot_zip (PyProof.Rows.callWith_type1 (thn (ha.run pos pins s σ H _ I h) fun us s1 ⟨vs, H1, I1, r1, q1⟩ => ?_) (star1 p1) (starN (by simp [p2]))))
  obtain ⟨k, k', a, b, xs, ys, rfl, hqx9, hqy9, q⟩ := q1
  obtain ⟨u1, u2, rfl, r, r'⟩ := vals2 r1
  cases r
  cases r'
  obtain ⟨its, rv, q1, la⟩ := src_at I1 hqx9
  obtain ⟨its2, rv2, q2, lb⟩ := src_at I1 hqy9
  have fresh59 : ∀ c, c ∈ [s1.heap.objs.size + 4, s1.heap.objs.size + 2, s1.heap.objs.size + 3, s1.heap.objs.size, s1.heap.objs.size + 1] → FpOk X pins H1 c := fun c hcm9 => by
    have e' : c = s1.heap.objs.size + 4 ∨ c = s1.heap.objs.size + 2 ∨ c = s1.heap.objs.size + 3 ∨ c = s1.heap.objs.size ∨ c = s1.heap.objs.size + 1 := by simpa using hcm9
    have hle9 : s1.heap.objs.size ≤ c := by
      rcases e' with z | z | z | z | z <;> rw [z] <;> first | exact Nat.le_refl _ | exact Nat.le_add_right _ _
    exact I1.fpOk hle9 (I1.hok.fresh hle9)
  refine zip_begins2 (begins k a its.toArray) (begins k' b its2.toArray) q1 q2 fun h' hz9 hTI9 hTO9 h1 h2 hsz hk => wpAny_pyIter_zip hz9 ?_
  have I29 : Inv X pins σ H1 { s1 with heap := h' } := I1.kept (t' := s1.toks) hk
  have S := zip_sep2 (N := s1.heap.objs.size) (fp1 := [a]) (fp2 := [b]) (by simpa using la) (by simpa using lb)
  exact ⟨s1.heap.objs.size + 4, _, _, _, H1, rfl, I29, turn_zipX (k := k) (k' := k') S (Nat.ne_of_lt la) (Nat.ne_of_lt (Nat.lt_succ_of_lt lb)), ⟨hz9, hTI9, ⟨_, _, hTO9⟩, itO_at h1, itO_at h2⟩, fresh59, q⟩
/-! ### enumerate -/
def ItN (K : PySem.W.Frag) (k : Bool) (a : Addr) : L2.It :=
  ⟨fun i H => ∃ (xs : List V) (x : V), Src K k H a xs ∧ xs[i]? = some x,
    fun i H v H' => ∃ T x, v = .ref T ∧ H T = none ∧ H' = upd H T (.tup [.int (i : Nat), x]) ∧ (∀ xs, Src K k H a xs → xs[i]? = some x),
    fun i H => ∃ xs : List V, Src K k H a xs ∧ i = xs.length⟩
theorem turn_enumX {P : Program} {w : World} {K : PySem.W.Frag} {elts : List Expr} {kk : Nat} {tpos : Pos} {k : Bool} {a e i1 : Addr} (ne1 : a ≠ i1) (ne2 : e ≠ i1) (ne3 : e ≠ a) :
    Turn P w K (.Tuple elts kk tpos) (ItN K k a) [e, i1] e (fun i h => (∃ old, IsEnum h e i1 ((i : Nat) : Int) old) ∧ itP k h i1 a i) where
  mem := by simp
  obj := fun i h st c hc => by
    obtain ⟨⟨old, he⟩, h1⟩ := st
    have e' : c = e ∨ c = i1 := by simpa using hc
    rcases e' with rfl | rfl
    · exact ⟨_, he, fun v q => nomatch q⟩
    · exact itP_ob h1
  keep := fun i h h' st kp => by
    obtain ⟨⟨old, he⟩, h1⟩ := st
    exact ⟨⟨old, kp e (by simp) _ he⟩, itP_at h1 fun o q => kp i1 (by simp) o q⟩
  item := by
    intro X hP9 hw9 hK9 hc i pins s σ H E I hf9 st hg9
    subst hP9 hw9 hK9
    obtain ⟨⟨old, he⟩, h1⟩ := st
    obtain ⟨xs, x, hqx9, hx⟩ := hg9
    obtain ⟨its, rv, p, _⟩ := src_at I hqx9
    have hh : X.A.in1.handled = none := I.ok.hd hc
    have W := WalksT.enumFrom (prog := X.prog) (w := X.w) (A := X.A) 0 (draws hh k i1 a ne1 its.toArray) e ne2 (by simp [ne2, ne3]) (by simp)
    have n1 : i < its.toArray.size := by rw [List.size_toArray, ← rv.length]; exact (List.getElem?_eq_some_iff.mp hx).1
    refine W.item i s _ E n1 ⟨⟨old, by simpa using he⟩, h1, p⟩ fun T vals h' tk hv hsz hT hm hk => ?_
    obtain ⟨t, u, hu, rfl⟩ := hv
    obtain ⟨u', hu', ru⟩ := rv.get hx
    rw [List.getElem?_toArray] at hu
    rw [hu] at hu'
    cases hu'
    refine ⟨_, rfl, W.go elts kk tpos i T { s with heap := h', toks := tk } _ E hm fun h'' st' hk' => ?_⟩
    obtain ⟨⟨old', z1⟩, z2, _⟩ := st'
    have nT : T ∉ [e, i1] := W.apart i T h' hm
    obtain ⟨oT, eT, cT, nn, dT⟩ := hT
    have new : ObjOk X.prog X.w (upd H T (.tup [.int (i : Nat), x])) h'' T (.tup [.int (i : Nat), x]) :=
      ⟨by show 2 ≤ sizeLine; rw [sizeLine_eq]; decide, [.int (0 + (i : Int)) t, u], .cons ⟨t, by simp⟩ (.cons ru .nil), ⟨oT, hk' T oT nT eT, cT, nn, dT⟩⟩
    have I1 : Inv X pins σ (upd H T (.tup [.int (i : Nat), x])) { s with heap := h'', toks := tk } := I.turnedNew (ch := [e, i1]) (fun c o hb q => hk' c o hb (hk c o hb q)) hf9 hsz new
    refine ⟨.ref T, _, I1, rfl, ⟨T, x, rfl, I.hok.fresh hsz, rfl, fun l hl => by rw [src_inj I hl hqx9]; exact hx⟩, ⟨⟨old', by simpa using z1⟩, z2⟩, fun c hcm9 => ?_⟩
    have e0 := (hf9 c hcm9).1
    obtain ⟨oc, ec⟩ : ∃ o, s.heap.get? c = some o := by
      have e' : c = e ∨ c = i1 := by simpa using hcm9
      rcases e' with rfl | rfl
      · exact ⟨_, he⟩
      · obtain ⟨o, q, _⟩ := itP_ob h1; exact ⟨o, q⟩
    have : c < s.heap.objs.size := Heap.lt_size ec
    rw [upd_ne (Nat.ne_of_lt (Nat.lt_of_lt_of_le this hsz))]
    exact e0
  done := by
    intro X hP9 hw9 hK9 hc i pins s σ H E I hf9 st hg9
    subst hP9 hw9 hK9
    obtain ⟨⟨old, he⟩, h1⟩ := st
    obtain ⟨xs, hqx9, hend9⟩ := hg9
    obtain ⟨its, rv, p, _⟩ := src_at I hqx9
    have hh : X.A.in1.handled = none := I.ok.hd hc
    have W := WalksT.enumFrom (prog := X.prog) (w := X.w) (A := X.A) 0 (draws hh k i1 a ne1 its.toArray) e ne2 (by simp [ne2, ne3]) (by simp)
    have en : i = its.toArray.size := by rw [hend9, rv.length]; simp
    subst en
    exact W.done s _ E ⟨⟨old, by simpa using he⟩, h1, p⟩ fun h' tk hk => ⟨rfl, I.turnedL (ch := [e, i1]) hk hf9⟩
  self := fun A i s Q E st h => by
    obtain ⟨⟨old, he⟩, _⟩ := st
    exact wpAny_pyIter_enum he h
end Lh
/-! E10: walks by values; comprehensions; tests. -/
namespace Lh
open PySem PySem.Spec PyProof.Rows L2
/-- what came behind (O, H) -/
def Per (b : Bool) (O : Addr → Prop) (H : Hp) (O' : Addr → Prop) (H' : Hp) : Prop := Ext O H O' H' ∧ (b = true → Same H H')
def Wk (C : Cn) (b : Bool) (O : Addr → Prop) (H1 : Hp) (J : L2.It) (items : List PV) : Prop :=
  ∃ (G : Hp → Prop) (Y : Nat → Hp → V → Hp → Prop), Walk J items.length G Y ∧ (∀ O2 H2, Per b O H1 O2 H2 → G H2) ∧
    ∀ i O2 H2 x H3, i < items.length → Per b O H1 O2 H2 → DomO O2 H2 → Y i H2 x H3 → Same H2 H3 ∧ ∃ p, items[i]? = some p ∧ Rep C O2 H3 p x
def RepX (b : Bool) (C : Cn) (O : Addr → Prop) (H : Hp) (p : PV) (v : V) : Prop := match b with
  | true => RepB C O H p v
  | false => Rep C O H p v
theorem RepX.b {b : Bool} {C : Cn} {O : Addr → Prop} {H : Hp} {p : PV} {v : V} (h : RepX b C O H p v) : RepB C O H p v := by
  cases b with
  | true => exact h
  | false => exact .inl h
section
variable {C : Cn} {sp : SpT} {X : Cx}
theorem src_of {b : Bool} {O : Addr → Prop} {H : Hp} {p : PV} {v : V} {l : List PV} (h : RepX b C O H p v) (e : seqOf p = some l) :
    ∃ k a vs, v = .ref a ∧ Src C.K k H a vs ∧ Reps C O H l vs ∧ ∀ O2 H2, Per b O H O2 H2 → Src C.K k H2 a vs := by
  cases p <;> first | cases e | skip
  · obtain ⟨a, vs, e, h1, h2⟩ := h.b.nl (fun _ z => nomatch z)
    exact ⟨true, a, vs, e, sqT_of h1, h2, fun O2 H2 q => sqT_of (h1.ext q.1)⟩
  · cases b with
    | false =>
      obtain ⟨a, vs, e, h1, h2⟩ := h
      exact ⟨false, a, vs, e, .inl (.inl h1.2), h2, fun O2 H2 q => .inl (.inl (q.1 a _ h1.1 h1.2).2)⟩
    | true =>
      obtain ⟨a, vs, e, h1, h2⟩ := h.b.list
      exact ⟨false, a, vs, e, .inl (.inl h1), h2, fun O2 H2 q => .inl (.inl (q.2 rfl a _ h1))⟩
  · obtain ⟨a, vs, e, h1, h2⟩ := h.b.nl (fun _ z => nomatch z)
    exact ⟨false, a, vs, e, sqL_of h1, h2, fun O2 H2 q => sqL_of (h1.ext q.1)⟩
theorem per_refl {b : Bool} {O : Addr → Prop} {H : Hp} : Per b O H O H := ⟨Ext.refl O H, fun _ => Same.refl H⟩
def itJ (K : PySem.W.Frag) (k : Bool) (a : Addr) : L2.It := match k with
  | true => Itt K a
  | false => Itl K a
theorem wk_seq {b : Bool} {O : Addr → Prop} {H : Hp} {k : Bool} {a : Addr} {vs : List V} {l : List PV} (r : Reps C O H l vs) (st : ∀ O2 H2, Per b O H O2 H2 → Src C.K k H2 a vs) : Wk C b O H (itJ C.K k a) l := by
  cases k with
  | true =>
    refine ⟨_, _, r.length ▸ walk_tup (K := C.K) (a := a) (xs := vs), st, fun i O2 H2 x H3 hi pr dm y => ?_⟩
    obtain ⟨rfl, y⟩ := y
    obtain ⟨p, e, hr⟩ := r.get' y
    exact ⟨Same.refl _, p, e, hr.ext pr.1⟩
  | false =>
    refine ⟨_, _, r.length ▸ walk_list (K := C.K) (a := a) (xs := vs), st, fun i O2 H2 x H3 hi pr dm y => ?_⟩
    obtain ⟨rfl, y⟩ := y
    obtain ⟨p, e, hr⟩ := r.get' y
    exact ⟨Same.refl _, p, e, hr.ext pr.1⟩
theorem rangeL_get {lo : Int} {n i : Nat} (h : i < n) : (rangeL lo n)[i]? = some (.int (lo + (i : Nat))) := by
  unfold rangeL
  rw [List.getElem?_map, List.getElem?_range h]; rfl
theorem rangeL_length {lo : Int} {n : Nat} : (rangeL lo n).length = n := by unfold rangeL; simp
theorem wk_range {b : Bool} {O : Addr → Prop} {H : Hp} {lo : Int} {n : Nat} : Wk C b O H (Itr lo n) (rangeL lo n) := by
  refine ⟨_, _, (by rw [rangeL_length]; exact walk_range), fun _ _ _ => trivial, fun i O2 H2 x H3 hi pr dm y => ?_⟩
  obtain ⟨rfl, rfl⟩ := y
  rw [rangeL_length] at hi
  exact ⟨Same.refl _, _, rangeL_get hi, rfl⟩
theorem wk_text {b : Bool} {O : Addr → Prop} {H : Hp} {s : List Nat} : Wk C b O H (Its ⟨s.toArray⟩) (s.map fun c => .str [c]) := by
  have w := walk_str (z := ⟨s.toArray⟩)
  refine ⟨_, _, (by rw [show (s.map fun c => PV.str [c]).length = (⟨s.toArray⟩ : Str).cps.size by simp]; exact w), fun _ _ _ => trivial, fun i O2 H2 x H3 hi pr dm y => ?_⟩
  obtain ⟨rfl, c, hc, rfl⟩ := y
  refine ⟨Same.refl _, .str [c], ?_, rfl⟩
  rw [List.getElem?_map]
  have : s[i]? = some c := by simpa using hc
  rw [this]; rfl
/-- iter(v) by the kinds of v -/
theorem iter_val {tg : Expr} {pins : List (Addr × Obj)} {σ : L2.St} {H : Hp} {s : Shared} {R : L2.It → Hp → Prop} {b : Bool} {O : Addr → Prop} {p : PV} {x : V} {u : Value} {E : Value → Shared → Prop} {Rq : List PV → Prop} (hK : X.K = C.K) (I : Inv X pins σ H s) (hx : RepX b C O H p x) (r : RelV x u) (h : itR p Rq)
    (k : ∀ items J, Rq items → Wk C b O H J items → R J H) : wpAny (model X.prog X.w) X.A (pyIter u) (PIE X pins σ tg R) E s := by
  have seq : ∀ l, seqOf p = some l → Rq l → wpAny (model X.prog X.w) X.A (pyIter u) (PIE X pins σ tg R) E s := by
    intro l e q
    obtain ⟨kk, a, vs, rfl, h1, h2, h3⟩ := src_of hx e
    cases r
    have w := wk_seq (b := b) h2 h3
    cases kk with
    | true =>
      obtain ⟨its, rv, pt, hz⟩ := I.tuple (by rw [hK]; exact h1)
      refine wpAny_pyIter_tuple (show s.heap.IsTuple a its.toArray from pt) (pi_one (tk := s.toks) I _ (turn_tuple a _) ⟨_, Heap.get?_push_size _ rfl, rfl, rfl⟩ (by rw [hK]; exact k l _ q w))
    | false =>
      obtain ⟨its, rv, pt, hz⟩ := I.list (by rw [hK]; exact h1)
      refine wpAny_pyIter_list pt.isList (pi_one (tk := s.toks) I _ (turn_list a _) ⟨_, Heap.get?_push_size _ rfl, rfl, rfl⟩ (by rw [hK]; exact k l _ q w))
  cases p <;> first | exact h.elim | skip
  · rename_i z
    cases hx.b.nl (fun _ z => nomatch z)
    obtain ⟨t, rfl⟩ := r
    have q := k _ _ h (wk_text (C := C) (b := b) (O := O) (H := H) (s := z))
    cases ha : (⟨z.toArray⟩ : Str).cps.all (· < 128)
    · exact wpAny_pyIter_wide ha (pi_one (tk := s.toks) I _ (turn_str _ _ t "str_iterator" (.inr rfl)) ⟨_, Heap.get?_push_size _ rfl, rfl, rfl⟩ q)
    · exact wpAny_pyIter_ascii ha (pi_one (tk := s.toks) I _ (turn_str _ _ t "str_ascii_iterator" (.inl rfl)) ⟨_, Heap.get?_push_size _ rfl, rfl, rfl⟩ q)
  · exact seq _ rfl h
  · exact seq _ rfl h
  · exact seq _ rfl h
  · rename_i lo hi
    obtain ⟨a, rfl, h1, h2, h3⟩ := hx.b.nl (fun _ z => nomatch z)
    cases r
    obtain ⟨t, u, v, ho⟩ := I.hok a _ h1.2
    refine wpAny_pyIter_range (t := t) (u := u) (v := v) ho (small_one h2.1 h2.2 h3.1 h3.2) (pi_one (tk := s.toks) I _ (turn_range _ lo (hi - lo).toNat) ?_ (k _ _ h wk_range))
    have e2 : (((hi - lo).toNat : Nat) : Int) - ((0 : Nat) : Int) = Builtin.Range.rangeSize lo hi 1 := by rw [rangeSize_one]; split <;> omega
    show IsRangeIter _ _ (lo + ((0 : Nat) : Int) * 1) ((((hi - lo).toNat : Nat) : Int) - ((0 : Nat) : Int)) 1
    rw [e2, show lo + ((0 : Nat) : Int) * 1 = lo by simp]
    exact Heap.get?_push_size _ rfl
variable (C sp)
def tI (b : Bool) (it : It) : TI := fun σ H R => ∃ cc O env Rq, At C cc O env σ H ∧ evI sp b it env Rq ∧ ∀ items J H', Rq items → Same H H' → Wk C b O H' J items → R J H'
/-- a borrowed or frozen reading -/
def tX (b : Bool) (e : E) : TE := fun σ H Q => ∃ cc O env R, At C cc O env σ H ∧ bovR b e (evP sp e env) env R ∧ ∀ p v H', R p → Same H H' → RepX b C O H' p v → Q v H'
variable {C sp}
theorem sx_of {b : Bool} {e : E} {ea : Expr} (h : PE X ea (tE C sp e)) (hb : PE X ea (tB C sp e)) : PE X ea (tX C sp b e) := by
  cases b with
  | true => exact hb
  | false =>
    refine h.conv fun σ H Q q => ?_
    obtain ⟨cc, O, env, R, A, hv, k⟩ := q
    exact tE_use A hv fun p v H' r s e _ => k p v H' r s e
theorem si_val {b : Bool} {e : E} {ea tg : Expr} (hK : X.K = C.K) (h : PE X ea (tX C sp b e)) : PI X tg ea (tI C sp b (.val e)) := by
  refine ⟨fun pins s σ H R I q => ?_⟩
  obtain ⟨cc, O, env, Rq, A, hv, k⟩ := q
  refine thn (h.run pins s σ H (fun v H1 => ∃ p, RepX b C O H1 p v ∧ itR p Rq ∧ Same H H1) I ⟨cc, O, env, _, A, hv, fun p v H' r s e => ⟨p, e, r, s⟩⟩) fun u s1 ⟨x, H1, I1, r1, p, e, q, sm⟩ => ?_
  exact iter_val hK I1 e r1 q fun items J h1 h2 => k items J H1 h1 sm h2
theorem si_rng1 {b : Bool} {a : E} {ea tg : Expr} {p pos : Pos} (hg : Gl X "range") (hm : X.mg "range" = none) (hp : plainA ea = true) (h : PE X ea (tE C sp a)) : PI X tg (.Call (.Name "range" p) [ea] [] pos) (tI C sp b (.rng1 a)) := by
  refine ⟨fun pins s σ H R I q => (pi_range1 hg hm (pa_cons h pa_nil (star1 hp)) (star1 hp)).run pins s σ H R I ?_⟩
  obtain ⟨cc, O, env, Rq, A, hv, k⟩ := q
  refine tE_use A hv fun x vx H1 r1 s1 e1 _ => ?_
  cases x <;> first | exact r1.elim | skip
  cases e1
  exact ⟨_, rfl, r1.1.1, r1.1.2, k _ _ H1 r1.2 s1 wk_range⟩
theorem si_rng2 {b : Bool} {a c : E} {ea ec tg : Expr} {p pos : Pos} (hg : Gl X "range") (hm : X.mg "range" = none) (hp : plainA ea = true) (hp2 : plainA ec = true) (h : PE X ea (tE C sp a)) (h' : PE X ec (tE C sp c)) : PI X tg (.Call (.Name "range" p) [ea, ec] [] pos) (tI C sp b (.rng2 a c)) := by
  refine ⟨fun pins s σ H R I q => (pi_range2 hg hm (pa_cons h (pa_cons h' pa_nil (star1 hp2)) (star1 hp)) (by rw [star1 hp, star1 hp2]; rfl) (star1 hp2)).run pins s σ H R I ?_⟩
  obtain ⟨cc, O, env, Rq, A, hv, k⟩ := q
  refine tE_use A hv fun x vx H1 r1 s1 e1 _ => ?_
  refine tE_use (A.same s1) r1 fun y vy H2 r2 s2 e2 _ => ?_
  cases x <;> first | exact r2.elim | skip
  cases y <;> first | exact r2.elim | skip
  cases e1; cases e2
  exact ⟨_, _, rfl, ⟨r2.1.1.1, r2.1.1.2, r2.1.2.1, r2.1.2.2⟩, k _ _ H2 r2.2 (s1.trans s2) wk_range⟩
theorem zw_get {l m : List PV} {i : Nat} {p q : PV} (h : l[i]? = some p) (h' : m[i]? = some q) : (List.zipWith (fun p q => PV.tup [p, q]) l m)[i]? = some (.tup [p, q]) := by
  rw [List.getElem?_zipWith, h, h']
theorem wk_zip {b : Bool} {O : Addr → Prop} {H : Hp} {k k' : Bool} {a a' : Addr} {vs ws : List V} {l m : List PV} (r : Reps C O H l vs) (r' : Reps C O H m ws) (st : ∀ O2 H2, Per b O H O2 H2 → Src C.K k H2 a vs) (st' : ∀ O2 H2, Per b O H O2 H2 → Src C.K k' H2 a' ws) :
    Wk C b O H (ItZ C.K k k' a a') (List.zipWith (fun p q => .tup [p, q]) l m) := by
  have hl : (List.zipWith (fun p q => PV.tup [p, q]) l m).length = min vs.length ws.length := by rw [List.length_zipWith, r.length, r'.length]
  refine ⟨fun H2 => Src C.K k H2 a vs ∧ Src C.K k' H2 a' ws, YPair (fun i => vs[i]?) (fun i => ws[i]?), ?_, fun O2 H2 pr => ⟨st O2 H2 pr, st' O2 H2 pr⟩, fun i O2 H2 x H3 hi pr dm y => ?_⟩
  · rw [hl]
    refine ⟨fun i H2 hi q => ?_, fun H2 q => ⟨vs, ws, q.1, q.2, rfl⟩, fun i H2 v H3 hi q y => ?_⟩
    · exact ⟨vs, ws, vs[i], ws[i], q.1, q.2, by simp [show i < vs.length by omega], by simp [show i < ws.length by omega]⟩
    · obtain ⟨T, x, z, h1, h2, h3, h4, h5⟩ := y
      exact ⟨T, x, z, h1, h2, h3, h4 vs q.1, h5 ws q.2⟩
  · obtain ⟨T, u, w, rfl, hn, rfl, h1, h2⟩ := y
    obtain ⟨p, e1, q1⟩ := r.get' h1
    obtain ⟨q, e2, q2⟩ := r'.get' h2
    refine ⟨same_new hn, _, zw_get e1 e2, ?_⟩
    exact new_tup dm hn (⟨u, [w], rfl, q1.ext pr.1, ⟨w, [], rfl, q2.ext pr.1, rfl⟩⟩ : Reps C O2 H2 [p, q] [u, w])
theorem si_zip {b : Bool} {a c : E} {ea ec : Expr} {elts : List Expr} {kk : Nat} {tpos p pos : Pos} (hK : X.K = C.K) (hg : Gl X "zip") (hm : X.mg "zip" = none) (hp : plainA ea = true) (hp2 : plainA ec = true) (h : PE X ea (tX C sp b a)) (h' : PE X ec (tX C sp b c)) :
    PI X (.Tuple elts kk tpos) (.Call (.Name "zip" p) [ea, ec] [] pos) (tI C sp b (.zip a c)) := by
  refine ⟨fun pins s σ H R I q => (pi_zipX hg hm (pa_cons h (pa_cons h' pa_nil (star1 hp2)) (star1 hp)) hp hp2).run pins s σ H R I ?_⟩
  obtain ⟨cc, O, env, Rq, A, hv, k⟩ := q
  refine ⟨cc, O, env, _, A, hv, fun x vx H1 r1 s1 e1 => ?_⟩
  refine ⟨cc, O, env, _, A.same s1, r1, fun y vy H2 r2 s2 e2 => ?_⟩
  obtain ⟨l, m, g1, g2, q⟩ := r2
  have e1' : RepX b C O H2 x vx := by
    cases b with
    | true => exact RepB.ext s2 e1
    | false => exact Rep.ext (Ext.same s2) e1
  obtain ⟨k1, a1, vs, rfl, h1, h2, h3⟩ := src_of e1' g1
  obtain ⟨k2, a2, ws, rfl, h1', h2', h3'⟩ := src_of e2 g2
  rw [hK]
  exact ⟨k1, k2, a1, a2, vs, ws, rfl, h1, h1', k _ _ H2 q (s1.trans s2) (wk_zip h2 h2' h3 h3')⟩
theorem wk_rev {b : Bool} {O : Addr → Prop} {H : Hp} {k : Bool} {a : Addr} {vs : List V} {l : List PV} (r : Reps C O H l vs) (st : ∀ O2 H2, Per b O H O2 H2 → Src C.K k H2 a vs) :
    Wk C b O H (match k with | true => RT.ItvT C.K a vs.length | false => Itv C.K a vs.length) l.reverse := by
  have hl : l.reverse.length = vs.length := by rw [List.length_reverse, r.length]
  have tail : ∀ i O2 H2 x H3, i < l.reverse.length → Per b O H O2 H2 → DomO O2 H2 → (H3 = H2 ∧ vs[vs.length - 1 - i]? = some x) → Same H2 H3 ∧ ∃ p, l.reverse[i]? = some p ∧ Rep C O2 H3 p x := by
    intro i O2 H2 x H3 hi pr dm y
    obtain ⟨rfl, y⟩ := y
    obtain ⟨p, e, q⟩ := r.get' y
    refine ⟨Same.refl _, p, ?_, q.ext pr.1⟩
    rw [List.getElem?_reverse (by rw [List.length_reverse] at hi; exact hi)]
    rw [r.length] at e
    exact e
  cases k with
  | false =>
    refine ⟨_, _, hl ▸ walk_rev (K := C.K) (a := a) (xs := vs), st, tail⟩
  | true =>
    have w : Walk (RT.ItvT C.K a vs.length) vs.length (fun H2 => SqT C.K H2 a vs) (fun i H2 x H3 => H3 = H2 ∧ vs[vs.length - 1 - i]? = some x) :=
      ⟨fun i _ hi q => ⟨hi, vs, vs[vs.length - 1 - i]'(by omega), q, by simp [show vs.length - 1 - i < vs.length by omega]⟩, fun _ _ => Nat.le_refl _, fun _ _ _ _ _ q y => ⟨y.1, y.2 vs q⟩⟩
    exact ⟨fun H2 => SqT C.K H2 a vs, _, (by rw [hl]; exact w), st, tail⟩
theorem si_rev {b : Bool} {a : E} {ea tg : Expr} {p pos : Pos} (hK : X.K = C.K) (hg : Gl X "reversed") (hm : X.mg "reversed" = none) (hp : plainA ea = true) (h : PE X ea (tX C sp b a)) : PI X tg (.Call (.Name "reversed" p) [ea] [] pos) (tI C sp b (.rev a)) := by
  refine ⟨fun pins s σ H R I q => (RT.pi_revA hg hm h (star1 hp)).run pins s σ H R I ?_⟩
  obtain ⟨cc, O, env, Rq, A, hv, k⟩ := q
  refine ⟨cc, O, env, _, A, hv, fun x vx H1 r1 s1 e1 => ?_⟩
  obtain ⟨l, g1, q⟩ := r1
  obtain ⟨k1, a1, vs, rfl, h1, h2, h3⟩ := src_of e1 g1
  have w := k _ _ H1 q s1 (wk_rev h2 h3)
  rw [hK]
  cases k1 with
  | true => exact ⟨a1, vs, rfl, .inr ⟨h1, w⟩⟩
  | false => exact ⟨a1, vs, rfl, .inl ⟨h1, w⟩⟩
/-! tests -/
theorem tru_rep {O : Addr → Prop} {H : Hp} {p : PV} {v : V} {b : Bool} (h : Rep C O H p v) (e : truP p = some b) : TruV C.K v H b := by
  cases p <;> first | cases e | skip
  · cases h; rfl
  · cases h; rfl
  · cases h; rfl
  · obtain ⟨a, vs, rfl, h1, h2⟩ := h
    rename_i l
    refine .inr (.inl ⟨vs, sqT_of h1, ?_⟩)
    have := h2.length
    cases l <;> cases vs <;> simp_all
  · obtain ⟨a, vs, rfl, h1, h2⟩ := h
    rename_i l
    refine .inl ⟨vs, .inl (.inl h1.2), ?_⟩
    have := h2.length
    cases l <;> cases vs <;> simp_all
theorem st_val {e : E} {ea : Expr} (hK : X.K = C.K) (he : ∀ whole, isTrue ea X.env whole = (do let v ← whole; standAt ea.pos; holding [v] (truthy v))) (h : PE X ea (tE C sp e)) : PT X ea (tT C sp (.v e)) := by
  refine (pt_truth h he).conv fun σ H Q q => ?_
  obtain ⟨cc, O, env, R, A, hv, k⟩ := q
  refine tE_use A hv fun x vx H1 r1 s1 e1 _ => ?_
  obtain ⟨b, e2, r⟩ := r1
  exact ⟨b, by rw [hK]; exact tru_rep e1 e2, k b H1 r s1⟩
theorem st_cmp {o : COp} {a b : E} {ea eb : Expr} {pos : Pos} (hK : X.K = C.K) (hu : X.A.units + 65 < cLine) (hm : behindInMarks (copOf o) eb = false) (ha : PE X ea (tB C sp a)) (hb : PE X eb (tB C sp b)) : PT X (.Compare ea [copOf o] [eb] pos) (tT C sp (.v (.cmp o a b))) := by
  refine (pt_cmpR (op_cmp hu o) ha hb hm).conv fun σ H Q q => ?_
  obtain ⟨cc, O, env, R, A, hv, k⟩ := q
  refine tB_use A hv fun x vx H1 r1 s1 e1 => ?_
  refine tB_use (A.same s1) r1 fun y vy H2 r2 s2 e2 => ?_
  rw [hK]
  refine cmpR_ok o (e1.ext s2) e2 r2 fun c r => ?_
  obtain ⟨c', e3, r⟩ := r
  cases e3
  exact ⟨c, rfl, k c H2 r (s1.trans s2)⟩
theorem st_chain {o o' : COp} {a b c : E} {ea eb ec : Expr} {pos : Pos} (hK : X.K = C.K) (hu : X.A.units + 65 < cLine) (hm : lastMarks [copOf o, copOf o'] [eb, ec] = false) (ha : PE X ea (tE C sp a)) (hb : PE X eb (tE C sp b)) (hc : PE X ec (tE C sp c)) :
    PT X (.Compare ea [copOf o, copOf o'] [eb, ec] pos) (tT C sp (.v (.chain o o' a b c))) := by
  refine (pt_chain (op_cmp hu o) (op_cmp hu o') ha hb hc hm).conv fun σ H Q q => ?_
  obtain ⟨cc, O, env, R, A, hv, k⟩ := q
  refine tE_use A hv fun x vx H1 r1 s1 e1 _ => ?_
  refine tE_use (A.same s1) r1 fun y vy H2 r2 s2 e2 _ => ?_
  rw [hK]
  refine cmpR_ok o (.inl (e1.ext (Ext.same s2))) (.inl e2) r2 fun bb r => ?_
  refine ⟨bb, rfl, ?_⟩
  cases bb with
  | false =>
    rw [if_neg Bool.false_ne_true]
    obtain ⟨c', e3, r⟩ := r
    cases e3
    exact ⟨false, rfl, k _ H2 r (s1.trans s2)⟩
  | true =>
    rw [if_pos rfl]
    refine tE_use ((A.same s1).same s2) r fun z vz H4 r4 s4 e4 _ => ?_
    refine cmpR_ok o' (.inl (e2.ext (Ext.same s4))) (.inl e4) r4 fun b r => ?_
    obtain ⟨c', e3, r⟩ := r
    cases e3
    exact ⟨b, rfl, k _ H4 r ((s1.trans s2).trans s4)⟩
theorem st_not {t : T} {et : Expr} {pos : Pos} (h : PT X et (tT C sp t)) : PT X (.UnaryOp .Not et pos) (tT C sp (.not t)) := by
  refine (pt_not h).conv fun σ H Q q => ?_
  obtain ⟨cc, O, env, R, A, hv, k⟩ := q
  exact ⟨cc, O, env, _, A, hv, fun b H1 r s => k _ H1 r s⟩
theorem sw_and2 {a b : T} {ea eb : Expr} {rest : List Expr} {pos : Pos} (ha : PT X ea (tT C sp a)) (hb : PW X (.BoolOp .And (eb :: rest) pos) (tT C sp b)) : PW X (.BoolOp .And (ea :: eb :: rest) pos) (tT C sp (.and2 a b)) := by
  refine (pw_and ha hb).conv fun σ H Q q => ?_
  obtain ⟨cc, O, env, R, A, hv, k⟩ := q
  refine ⟨cc, O, env, _, A, hv, fun c H1 r1 s1 => ?_⟩
  cases c with
  | true =>
    rw [if_pos rfl] at r1 ⊢
    exact ⟨cc, O, env, _, A.same s1, r1, fun b H2 r s => k b H2 r (s1.trans s)⟩
  | false =>
    rw [if_neg Bool.false_ne_true] at r1 ⊢
    exact k false H1 r1 s1
theorem sw_or2 {a b : T} {ea eb : Expr} {rest : List Expr} {pos : Pos} (ha : PT X ea (tT C sp a)) (hb : PW X (.BoolOp .Or (eb :: rest) pos) (tT C sp b)) : PW X (.BoolOp .Or (ea :: eb :: rest) pos) (tT C sp (.or2 a b)) := by
  refine (pw_or ha hb).conv fun σ H Q q => ?_
  obtain ⟨cc, O, env, R, A, hv, k⟩ := q
  refine ⟨cc, O, env, _, A, hv, fun c H1 r1 s1 => ?_⟩
  cases c with
  | true =>
    rw [if_pos rfl] at r1 ⊢
    exact k true H1 r1 s1
  | false =>
    rw [if_neg Bool.false_ne_true] at r1 ⊢
    exact ⟨cc, O, env, _, A.same s1, r1, fun b H2 r s => k b H2 r (s1.trans s)⟩
theorem sw_and1 {a : T} {ea : Expr} {pos : Pos} (ha : PT X ea (tT C sp a)) : PW X (.BoolOp .And [ea] pos) (tT C sp (.and1 a)) := by
  refine (pw_and1 ha).conv fun σ H Q q => ?_
  obtain ⟨cc, O, env, R, A, hv, k⟩ := q
  exact ⟨cc, O, env, _, A, hv, k⟩
theorem sw_or1 {a : T} {ea : Expr} {pos : Pos} (ha : PT X ea (tT C sp a)) : PW X (.BoolOp .Or [ea] pos) (tT C sp (.or1 a)) := by
  refine (pw_or1 ha).conv fun σ H Q q => ?_
  obtain ⟨cc, O, env, R, A, hv, k⟩ := q
  exact ⟨cc, O, env, _, A, hv, k⟩
end
end Lh
/-! E11: targets and comprehensions. -/
namespace Lh
open PySem PySem.Spec PyProof.Rows L2
theorem _root_.L2.PG.conv {X : Cx} {e : Expr} {t t' : TG} (h : PG X e t) (w : ∀ v σ H Q, t' v σ H Q → t v σ H Q) : PG X e t' := ⟨fun pins s σ H v u Q I r q => h.run pins s σ H v u Q I r (w v σ H Q q)⟩
theorem _root_.L2.PGs.conv {X : Cx} {e : List Expr} {t t' : TGs} (h : PGs X e t) (w : ∀ v σ H Q, t' v σ H Q → t v σ H Q) : PGs X e t' := ⟨fun pins s σ H v u Q I r q => h.run pins s σ H v u Q I r (w v σ H Q q)⟩
/-- the slots but those of S are as they were -/
def SetsAt (S : List Nat) (σ σ' : L2.St) : Prop := σ'.length = σ.length ∧ ∀ j, j ∉ S → σ'[j]? = σ[j]?
theorem SetsAt.refl (S : List Nat) (σ : L2.St) : SetsAt S σ σ := ⟨rfl, fun _ _ => rfl⟩
theorem SetsAt.trans {S S' : List Nat} {σ σ1 σ2 : L2.St} (a : SetsAt S σ σ1) (b : SetsAt S' σ1 σ2) : SetsAt (S ++ S') σ σ2 := ⟨b.1.trans a.1, fun j h => by
  rw [List.mem_append, not_or] at h
  exact (b.2 j h.2).trans (a.2 j h.1)⟩
theorem SetsAt.set (σ : L2.St) (i : Nat) (x : Option V) : SetsAt [i] σ (σ.set i x) := ⟨List.length_set .., fun j h => List.getElem?_set_ne fun e => h (by simp [e])⟩
theorem wipe_get (σ : L2.St) : ∀ (vs : List Nat) (j : Nat), (wipe σ vs)[j]? = if j ∈ vs then σ[j]?.map fun _ => none else σ[j]?
  | [], j => by simp [wipe]
  | v :: vs, j => by
    unfold wipe
    by_cases h : v = j
    · subst h
      rw [if_pos (by simp)]
      by_cases hl : v < (wipe σ vs).length
      · rw [List.getElem?_set_self hl]
        rw [wipe_length] at hl
        rw [List.getElem?_eq_getElem hl]; rfl
      · rw [List.getElem?_eq_none (by rw [List.length_set]; omega)]
        rw [wipe_length] at hl
        rw [List.getElem?_eq_none (by omega)]; rfl
    · rw [List.getElem?_set_ne h, wipe_get σ vs j]
      have : (j ∈ v :: vs) ↔ j ∈ vs := by simp [Ne.symm h]
      simp only [this]
theorem wipe_eq {S vs : List Nat} {σ σ' : L2.St} (h : SetsAt S (wipe σ vs) σ') (hs : ∀ i ∈ S, i ∈ vs) : wipe σ' vs = wipe σ vs := by
  apply List.ext_getElem?
  intro j
  rw [wipe_get, wipe_get]
  by_cases hj : j ∈ vs
  · rw [if_pos hj, if_pos hj]
    have hl := h.1
    rw [wipe_length] at hl
    by_cases hb : j < σ.length
    · rw [List.getElem?_eq_getElem hb, List.getElem?_eq_getElem (by omega)]; rfl
    · rw [List.getElem?_eq_none (by omega), List.getElem?_eq_none (by omega)]
  · rw [if_neg hj, if_neg hj, h.2 j fun z => hj (hs j z), wipe_get, if_neg hj]
mutual
def slotsT : Tg → List Nat
  | .nm i => [i]
  | .tp ts => slotsTs ts
def slotsTs : List Tg → List Nat
  | [] => []
  | t :: ts => slotsT t ++ slotsTs ts
end
section
variable (C : Cn)
def tG (tg : Tg) : TG := fun v σ H Q => ∃ cc O env p R, At C cc O env σ H ∧ Rep C O H p v ∧ bindT tg p env R ∧ ∀ env' σ', R env' → At C cc O env' σ' H → SetsAt (slotsT tg) σ σ' → Q σ' H
def tGs (ts : List Tg) : TGs := fun vs σ H Q => ∃ cc O env ps R, At C cc O env σ H ∧ Reps C O H ps vs ∧ ps.length = ts.length ∧ bindTs ts ps env R ∧ ∀ env' σ', R env' → At C cc O env' σ' H → SetsAt (slotsTs ts) σ σ' → Q σ' H
end
section
variable {C : Cn} {sp : SpT} {X : Cx}
theorem At.set {cc : CC} {O : Addr → Prop} {env : Env} {σ : L2.St} {H : Hp} (A : At C cc O env σ H) (i : Nat) {p : PV} {v : V} (h : Rep C O H p v) : At C cc O (env.set i (.fz p)) (σ.set i (some v)) H := by
  obtain ⟨fp, I⟩ := A.ex
  by_cases hi : i < env.length
  · exact ⟨_, I.putFz hi h⟩
  · rw [List.set_eq_of_length_le (by omega), List.set_eq_of_length_le (by rw [← I.len]; omega)]
    exact A
theorem sg_nm {i : Nat} {x : Str} {pos : Pos} (hN : X.N.Nodup) (hi : X.N[i]? = some x) (hx : Loc X.env.scope x) (hf : X.fn x = true ∨ X.env.scope.names.lookup x = some .local) : PG X (.Name x pos) (tG C (.nm i)) := by
  refine (pg_name hN hi hx hf).conv fun v σ H Q q => ?_
  obtain ⟨cc, O, env, p, R, A, hr, hv, k⟩ := q
  exact k _ _ hv (A.set i hr) (SetsAt.set _ _ _)
theorem sg_tp {ts : List Tg} {es : List Expr} {kk : Nat} {pos : Pos} (hK : X.K = C.K) (hc : X.calm = true) (hl : es.length = ts.length) (hn : (assignEach es X.env).length = ts.length) (hst : (assignEach es X.env).findIdx? (·.1) = none) (h : PGs X es (tGs C ts)) : PG X (.Tuple es kk pos) (tG C (.tp ts)) := by
  refine (pg_tup hc h hn hst).conv fun v σ H Q q => ?_
  obtain ⟨cc, O, env, p, R, A, hr, hv, k⟩ := q
  cases p <;> first | exact hv.elim | skip
  obtain ⟨a, vs, rfl, h1, h2⟩ := hr
  exact ⟨a, vs, rfl, by rw [hK]; exact sqT_of h1, by rw [h2.length]; exact hv.1, cc, O, env, _, R, A, h2, hv.1, hv.2, k⟩
theorem sg_nil : PGs X [] (tGs C []) := by
  refine pgs_nil.conv fun v σ H Q q => ?_
  obtain ⟨cc, O, env, ps, R, A, hr, hl, hv, k⟩ := q
  cases ps with
  | nil => cases hr; exact ⟨rfl, k _ _ hv A (SetsAt.refl _ _)⟩
  | cons _ _ => simp at hl
theorem sg_cons {t : Tg} {ts : List Tg} {e : Expr} {es : List Expr} (hs : (assignEach (e :: es) X.env).map (·.2) = assign e X.env :: (assignEach es X.env).map (·.2)) (h : PG X e (tG C t)) (hr : PGs X es (tGs C ts)) : PGs X (e :: es) (tGs C (t :: ts)) := by
  refine (pgs_cons h hr hs).conv fun v σ H Q q => ?_
  obtain ⟨cc, O, env, ps, R, A, hrp, hl, hv, k⟩ := q
  cases ps with
  | nil => simp at hl
  | cons p ps =>
    obtain ⟨w, r, rfl, h1, h2⟩ := hrp
    refine ⟨w, r, rfl, cc, O, env, p, _, A, h1, hv, fun env1 σ1 r1 A1 s1 => ?_⟩
    exact ⟨cc, O, env1, ps, R, A1, h2, by simpa using hl, r1, fun env2 σ2 r2 A2 s2 => k env2 σ2 r2 A2 (s1.trans s2)⟩
/-! ### comprehensions -/
theorem At.wipe {cc : CC} {O : Addr → Prop} {env : Env} {σ : L2.St} {H : Hp} (A : At C cc O env σ H) : ∀ vs : List Nat, At C cc O (wipeE env vs) (L2.wipe σ vs) H
  | [] => A
  | v :: vs => by
    obtain ⟨fp, I⟩ := (A.wipe vs).ex
    unfold wipeE L2.wipe
    refine ⟨upF fp v [], ?_⟩
    have wl : (wipeE env vs).length = (L2.wipe σ vs).length := I.len
    refine ⟨by rw [List.length_set, List.length_set]; exact wl, fun k s x e1 e2 => ?_, fun k => ?_, fun k j a ne h1 h2 => ?_, fun k a h1 => ?_, I.dom, I.d0, I.up, I.fr1, I.fr2, fun k s a e w h1 => ?_, fun k s a e w h1 => ?_, fun k h => ?_, fun k a h1 => ?_, fun k s e w => ?_⟩
    · by_cases hk : k = v
      · subst hk
        rw [upF_same]
        have hl : k < (wipeE env vs).length := by
          have := (List.getElem?_eq_some_iff.mp e1).1
          rw [List.length_set] at this; exact this
        rw [List.getElem?_set_self hl] at e1
        cases e1
        rfl
      · rw [upF_ne hk]
        rw [List.getElem?_set_ne (Ne.symm hk)] at e1 e2
        exact I.sl k s x e1 e2
    · by_cases hk : k = v
      · subst hk; rw [upF_same]; exact List.nodup_nil
      · rw [upF_ne hk]; exact I.nd k
    · by_cases hk : k = v
      · subst hk; rw [upF_same] at h1; cases h1
      · rw [upF_ne hk] at h1
        by_cases hj : j = v
        · subst hj; rw [upF_same] at h2; cases h2
        · rw [upF_ne hj] at h2; exact I.dis k j a ne h1 h2
    · by_cases hk : k = v
      · subst hk; rw [upF_same] at h1; cases h1
      · rw [upF_ne hk] at h1; exact I.inO k a h1
    · by_cases hk : k = v
      · subst hk; rw [upF_same] at h1; cases h1
      · rw [upF_ne hk] at h1
        rw [List.getElem?_set_ne (Ne.symm hk)] at e
        exact I.new k s a e w h1
    · by_cases hk : k = v
      · subst hk; rw [upF_same] at h1; cases h1
      · rw [upF_ne hk] at h1
        rw [List.getElem?_set_ne (Ne.symm hk)] at e
        exact I.ios k s a e w h1
    · by_cases hk : k = v
      · subst hk; rw [upF_same]
      · rw [upF_ne hk]
        rw [List.length_set] at h
        exact I.out k h
    · by_cases hk : k = v
      · subst hk; rw [upF_same] at h1; cases h1
      · rw [upF_ne hk] at h1; exact I.z k a h1
    · by_cases hk : k = v
      · subst hk
        have hl : k < (wipeE env vs).length := by
          have := (List.getElem?_eq_some_iff.mp e).1
          rw [List.length_set] at this; exact this
        rw [List.getElem?_set_self hl] at e
        cases e; cases w
      · rw [List.getElem?_set_ne (Ne.symm hk)] at e ⊢
        exact I.i0 k s e w
theorem At.zone {cc : CC} {O : Addr → Prop} {env : Env} {σ : L2.St} {H : Hp} (A : At C cc O env σ H) : At C { cc with Z := O } O env σ H := let ⟨fp, I⟩ := A.ex; ⟨fp, I.zone⟩
theorem At.h0 {cc : CC} {O : Addr → Prop} {env : Env} {σ : L2.St} {H : Hp} (A : At C cc O env σ H) {a : Addr} (h : H a = none) : cc.H0 a = none := let ⟨fp, I⟩ := A.ex; I.h0 h
theorem At.aside {cc : CC} {O : Addr → Prop} {env : Env} {σ : L2.St} {H H' : Hp} (A : At C cc O env σ H) {D : Addr} (hD : ¬ cc.Z D) (hO : O D) (h0 : cc.H0 D = none) (keep : ∀ b x, b ≠ D → H b = some x → H' b = some x) (hd : H' D ≠ none) : At C cc O env σ H' := let ⟨fp, I⟩ := A.ex; ⟨fp, I.aside hD hO h0 keep hd⟩
theorem At.grow {cc : CC} {O : Addr → Prop} {env : Env} {σ : L2.St} {H H' : Hp} (A : At C cc O env σ H) (h : Same H H') {D : Addr} (hD : H D = none) (hD' : H' D ≠ none) : At C cc (Ox O D) env σ H' := by
  obtain ⟨fp, I⟩ := A.ex
  exact ⟨fp, I.grow h (f := [D]) (by simpa using hD) (by simpa using hD')⟩
def tTO (C : Cn) (sp : SpT) (c : TO) : TT := fun σ H Q => ∃ cc O env R, At C cc O env σ H ∧ evTO sp c env R ∧ ∀ b H', R b → Same H H' → Q b H'
theorem sto_none : PTs X [] (tTO C sp .none) := ⟨fun pins s σ H Q I q => pts_nil.run pins s σ H Q I (by
  obtain ⟨cc, O, env, R, A, hv, k⟩ := q
  exact k true H hv (Same.refl H))⟩
theorem sto_some {t : T} {e : Expr} (h : PT X e (tT C sp t)) : PTs X [e] (tTO C sp (.some t)) := ⟨fun pins s σ H Q I q => (pts_one h).run pins s σ H Q I (by
  obtain ⟨cc, O, env, R, A, hv, k⟩ := q
  exact ⟨cc, O, env, R, A, hv, k⟩)⟩
theorem compL_nil {f : PV → (Option PV → Prop) → Prop} {acc : List PV} {R : List PV → Prop} (h : compL f [] acc R) : R acc := h
/-- the list so far stands at D -/
def AccD (C : Cn) (O : Addr → Prop) (H1 : Hp) (D : Addr) (acc : List PV) (H : Hp) : Prop := ∃ accV, H D = some (.lst accV) ∧ Same H1 H ∧ Reps C (Ox O D) H acc accV
theorem AccD.same {O : Addr → Prop} {H1 H H' : Hp} {D : Addr} {acc : List PV} (a : AccD C O H1 D acc H) (h : Same H H') : AccD C O H1 D acc H' := by
  obtain ⟨v, h1, h2, h3⟩ := a
  exact ⟨v, h D _ h1, h2.trans h, h3.ext (Ext.same h)⟩
theorem AccD.push {O : Addr → Prop} {H1 H : Hp} {D : Addr} {acc : List PV} (hD : H1 D = none) (a : AccD C O H1 D acc H) {p : PV} {y : V} (hy : Rep C (Ox O D) H p y) (hl : acc.length < 16777216) :
    ∃ accV, H D = some (.lst accV) ∧ accV.length < sizeLine ∧ AccD C O H1 D (acc ++ [p]) (upd H D (.lst (accV ++ [y]))) := by
  obtain ⟨v, h1, h2, h3⟩ := a
  refine ⟨v, h1, by rw [h3.length, szl]; exact hl, v ++ [y], upd_same, fun b x e => ?_, ?_⟩
  · rw [upd_ne (ne_of_none e hD)]; exact h2 b x e
  · have ex : Ext (Ox O D) H (Ox O D) (upd H D (.lst (v ++ [y]))) := fun b x n e => ⟨n, by rw [upd_ne fun z => n (.inr (by simp [z]))]; exact e⟩
    exact (h3.ext ex).append ⟨y, [], rfl, hy.ext ex, rfl⟩
theorem AccD.per {O : Addr → Prop} {H1 H : Hp} {D : Addr} {acc : List PV} (hD : H1 D = none) (a : AccD C O H1 D acc H) : Per true O H1 (Ox O D) H :=
  ⟨fun b x n e => ⟨fun z => z.elim n (fun z => by rw [List.mem_singleton.mp z, hD] at e; cases e), a.choose_spec.2.1 b x e⟩, fun _ => a.choose_spec.2.1⟩
theorem AccD.at {cc : CC} {O : Addr → Prop} {env : Env} {σ : L2.St} {H1 H : Hp} {D : Addr} {acc : List PV} (A : At C cc O env σ H1) (hD : H1 D = none) (a : AccD C O H1 D acc H) : At C cc (Ox O D) env σ H :=
  A.grow a.choose_spec.2.1 hD (by rw [a.choose_spec.1]; simp)
theorem AccD.out {O : Addr → Prop} {H H1 H2 : Hp} {D : Addr} {acc : List PV} (dm : DomO O H1) (s1 : Same H H1) (hD : H1 D = none) (a : AccD C O H1 D acc H2) : Same H H2 ∧ Rep C O H2 (.lst acc) (.ref D) ∧ FrL C O H H2 (.lst acc) (.ref D) := by
  obtain ⟨v, h1, h2, h3⟩ := a
  refine ⟨s1.trans h2, ⟨D, v, rfl, ⟨fun o => dm D o hD, h1⟩, h3.ext (ext_sub fun a o => .inl o)⟩, fun l e => ?_⟩
  cases e
  exact ⟨D, v, rfl, s1.free hD, h1, h3⟩
/-- one walk that fills the list at D -/
theorem walk_fill {cc : CC} {O : Addr → Prop} {env : Env} {σ : L2.St} {H1 : Hp} {D : Addr} {J : L2.It} {items : List PV} {tg : Tg} {c : TO} {e : E} {vs : List Nat} {R : List PV → Prop} {Qd : Hp → Prop} (A : At C cc O env σ H1) (hD : H1 D = none) (w : Wk C true O H1 J items) (hs : ∀ i ∈ slotsT tg, i ∈ vs)
    {acc0 : List PV} {H2 : Hp} (a0 : AccD C O H1 D acc0 H2)
    (h : compL (fun x k => bindT tg x (wipeE env vs) fun env' => evTO sp c env' fun b => if b = true then evP sp e env' fun y => k (some y) else k none) items acc0 R) (k : ∀ acc H3, R acc → AccD C O H1 D acc H3 → Qd H3) :
    ∃ W : Nat → Nat → Hp → Prop, (∃ m, W 0 m H2) ∧ ∀ i m H, W i m H → (J.stop i H ∧ Qd H) ∨ (J.go i H ∧ ∃ Nx : Hp → Prop, (∀ H', Nx H' → ∃ m', m' < m ∧ W (i + 1) m' H') ∧ ∀ x H', J.yld i H x H' → tG C tg x (L2.wipe σ vs) H' fun σ2 H2 => L2.wipe σ2 vs = L2.wipe σ vs ∧ tTO C sp c σ2 H2 fun b H3 =>
      if b = true then tE C sp e σ2 H3 fun y H4 => ∃ acc, H4 D = some (.lst acc) ∧ acc.length < sizeLine ∧ Nx (upd H4 D (.lst (acc ++ [y]))) else Nx H3) := by
  obtain ⟨G, Y, wk, hG, hY⟩ := w
  let Pv : Nat → Hp → Prop := fun i H => ∃ acc, AccD C O H1 D acc H ∧ compL (fun x k => bindT tg x (wipeE env vs) fun env' => evTO sp c env' fun b => if b = true then evP sp e env' fun y => k (some y) else k none) (items.drop i) acc R
  refine ⟨fun i m H => m = items.length - i ∧ i ≤ items.length ∧ Pv i H, ⟨items.length, by simp, Nat.zero_le _, acc0, a0, h⟩, ?_⟩
  rintro i m H ⟨rfl, hi, acc, a, hc⟩
  have hp := a.per hD
  have g := hG _ _ hp
  by_cases hlt : i < items.length
  · refine .inr ⟨wk.goes i H hlt g, Pv (i + 1), fun H' p' => ⟨items.length - (i + 1), by omega, rfl, hlt, p'⟩, fun x H3 y => ?_⟩
    have A2 := a.at A hD
    obtain ⟨s3, p, ep, hr⟩ := hY i _ H x H3 hlt hp A2.dom (wk.yields i H x H3 hlt g y)
    have hd : items.drop i = p :: items.drop (i + 1) := by
      rw [List.drop_eq_getElem_cons hlt]
      rw [List.getElem?_eq_getElem hlt] at ep
      rw [Option.some.inj ep]
    rw [hd] at hc
    have A3 := (A2.same s3).wipe vs
    refine ⟨cc, _, _, p, _, A3, hr, hc, fun env' σ' r1 A4 st => ⟨wipe_eq st hs, ?_⟩⟩
    refine ⟨cc, _, env', _, A4, r1, fun b H5 r2 s5 => ?_⟩
    cases b with
    | true =>
      rw [if_pos rfl] at r2 ⊢
      refine tE_use (A4.same s5) r2 fun q vq H6 r3 s6 e6 _ => ?_
      obtain ⟨hl, r3⟩ := r3
      obtain ⟨accV, g1, g2, g3⟩ := ((a.same s3).same (s5.trans s6)).push hD e6 hl
      exact ⟨accV, g1, g2, acc ++ [q], g3, r3⟩
    | false =>
      rw [if_neg Bool.false_ne_true] at r2 ⊢
      exact ⟨acc, (a.same s3).same s5, r2⟩
  · have e : i = items.length := by omega
    subst e
    rw [List.drop_length] at hc
    exact .inl ⟨wk.stops H g, k acc H hc a⟩
theorem so_comp_read {it : It} {tg : Tg} {c : TO} {e : E} {vs : List Nat} (hs : ∀ i ∈ slotsT tg, i ∈ vs) (σ : L2.St) (H : Hp) (Q : VK) (q : tE C sp (.comp it tg c e vs) σ H Q) : tLc (tI C sp true it) (tG C tg) (tTO C sp c) (tE C sp e) vs σ H Q := by
  obtain ⟨cc, O, env, R, A, hv, k⟩ := q
  refine ⟨cc, O, env, _, A, hv, fun items J H1 r1 s1 w D hD => ?_⟩
  have A1 := A.same s1
  have a0 : AccD C O H1 D [] (upd H1 D (.lst [])) := ⟨[], upd_same, same_new hD, rfl⟩
  exact walk_fill A1 hD w hs a0 r1 fun acc H3 r a => by
    obtain ⟨g1, g2, g3⟩ := a.out A1.dom s1 hD
    exact k _ _ H3 r g1 g2 fun _ => g3
theorem so_comp {it : It} {tg : Tg} {c : TO} {e : E} {vs : List Nat} {elt etg iter : Expr} {ifs : List Expr} {scope : Scope} {own : List (Str × Nat)} {pos : Pos} (hov : own.map (·.2) = vs) (hc : X.calm = true) (hN : X.N.Nodup) (ok : BlkOk X.N X.env.scope scope own) (hs : ∀ i ∈ slotsT tg, i ∈ vs)
    (hi : PI X etg iter (tI C sp true it)) (hg : ∀ (s : Shared) (H : Hp) (C' : Addr) (cl : List (Str × Addr)) (fp : List Addr), PG (X.blk s H scope (compEnvC scope cl C' X.env) fp) etg (tG C tg)) (ht : ∀ (s : Shared) (H : Hp) (C' : Addr) (cl : List (Str × Addr)) (fp : List Addr), PTs (X.blk s H scope (compEnvC scope cl C' X.env) fp) ifs (tTO C sp c))
    (he : ∀ (s : Shared) (H : Hp) (C' : Addr) (cl : List (Str × Addr)) (fp : List Addr), PE (X.blk s H scope (compEnvC scope cl C' X.env) fp) elt (tE C sp e)) (hf : ∀ env x, foldedSetIterable iter env x = pure x) :
    PE X (.ListComp elt [⟨etg, iter, ifs, 0⟩] scope pos) (tE C sp (.comp it tg c e vs)) := by
  subst hov
  exact (pe_lc hc hN hi ok hg ht he (hf _)).conv (so_comp_read hs)
theorem so_comp2_read {it it1 : It} {tg tg1 : Tg} {c c1 : TO} {e : E} {vs vs1 : List Nat} (hs : ∀ i ∈ slotsT tg, i ∈ vs) (hs1 : ∀ i ∈ slotsT tg1, i ∈ vs1) (σ : L2.St) (H : Hp) (Q : VK) (q : tE C sp (.comp2 it tg c it1 tg1 c1 e vs vs1) σ H Q) :
    tLc2 (tI C sp true it) (tG C tg) (tTO C sp c) (tI C sp false it1) (tG C tg1) (tTO C sp c1) (tE C sp e) vs vs1 σ H Q := by
  obtain ⟨cc, O, env, R, A, hv, k⟩ := q
  refine ⟨cc, O, env, _, A, hv, fun items J H1 r1 s1 w D hD => ?_⟩
  have A1 := (A.same s1).zone
  have nZ : ¬ O D := fun o => A1.dom D o hD
  have h0 : cc.H0 D = none := (A.same s1).h0 hD
  have a0 : AccD C O H1 D [] (upd H1 D (.lst [])) := ⟨[], upd_same, same_new hD, rfl⟩
  obtain ⟨G, Y, wk, hG, hY⟩ := w
  let f : PV → List PV → (List PV → Prop) → Prop := fun x acc k => bindT tg x (wipeE env vs) fun env' => evTO sp c env' fun b => if b = true then
      evI sp false it1 env' fun items1 => compL (fun x1 k1 => bindT tg1 x1 (wipeE env' vs1) fun env2 => evTO sp c1 env2 fun b1 => if b1 = true then evP sp e env2 fun y => k1 (some y) else k1 none) items1 acc k
    else k acc
  let Pv : Nat → Hp → Prop := fun i H => ∃ acc, AccD C O H1 D acc H ∧ compL2 f (items.drop i) acc fun l => R (.lst l)
  refine ⟨fun i m H => m = items.length - i ∧ i ≤ items.length ∧ Pv i H, ⟨items.length, by simp, Nat.zero_le _, [], a0, r1⟩, ?_⟩
  rintro i m H2 ⟨rfl, hi, acc, a, hc⟩
  have hp := a.per hD
  have g := hG _ _ hp
  by_cases hlt : i < items.length
  · refine .inr ⟨wk.goes i H2 hlt g, Pv (i + 1), fun H' p' => ⟨items.length - (i + 1), by omega, rfl, hlt, p'⟩, fun x H3 y => ?_⟩
    have A2 := a.at A1 hD
    obtain ⟨s3, p, ep, hr⟩ := hY i _ H2 x H3 hlt hp A2.dom (wk.yields i H2 x H3 hlt g y)
    have hd : items.drop i = p :: items.drop (i + 1) := by
      rw [List.drop_eq_getElem_cons hlt]
      rw [List.getElem?_eq_getElem hlt] at ep
      rw [Option.some.inj ep]
    rw [hd] at hc
    have A3 := (A2.same s3).wipe vs
    refine ⟨_, _, _, p, _, A3, hr, hc, fun env' σ' q1 A4 st => ⟨wipe_eq st hs, ?_⟩⟩
    refine ⟨_, _, env', _, A4, q1, fun b H5 q2 s5 => ?_⟩
    have a5 := (a.same s3).same s5
    cases b with
    | false =>
      simp only [Bool.false_eq_true, if_false] at q2 ⊢
      exact ⟨acc, a5, q2⟩
    | true =>
      simp only [if_true] at q2 ⊢
      refine ⟨_, _, env', _, A4.same s5, q2, fun items1 J1 H6 q3 s6 w1 => ?_⟩
      obtain ⟨G1, Y1, wk1, hG1, hY1⟩ := w1
      have a6 := a5.same s6
      have A6 := (A4.same s5).same s6
      let P1 : Nat → Hp → Prop := fun j H => ∃ acc, AccD C O H1 D acc H ∧ (∀ b x, b ≠ D → H6 b = some x → H b = some x) ∧ compL (fun x1 k1 => bindT tg1 x1 (wipeE env' vs1) fun env2 => evTO sp c1 env2 fun b1 => if b1 = true then evP sp e env2 fun y => k1 (some y) else k1 none) (items1.drop j) acc fun acc' => compL2 f (items.drop (i + 1)) acc' fun l => R (.lst l)
      refine ⟨fun j m H => m = items1.length - j ∧ j ≤ items1.length ∧ P1 j H, ⟨items1.length, by simp, Nat.zero_le _, acc, a6, fun _ _ _ e => e, q3⟩, ?_⟩
      rintro j m H7 ⟨rfl, hj, acc7, a7, keep7, hc7⟩
      have hp1 : Per false (Ox O D) H6 (Ox O D) H7 := ⟨fun b x n e => ⟨n, keep7 b x (fun z => n (.inr (by simp [z]))) e⟩, fun z => nomatch z⟩
      have g1 := hG1 _ _ hp1
      have A7 := A6.aside (D := D) nZ (.inr (by simp)) h0 keep7 (by rw [a7.choose_spec.1]; simp)
      by_cases hlt1 : j < items1.length
      · refine .inr ⟨wk1.goes j H7 hlt1 g1, P1 (j + 1), fun H' p' => ⟨items1.length - (j + 1), by omega, rfl, hlt1, p'⟩, fun x1 H8 y1 => ?_⟩
        obtain ⟨s8, p1, ep1, hr1⟩ := hY1 j _ H7 x1 H8 hlt1 hp1 A7.dom (wk1.yields j H7 x1 H8 hlt1 g1 y1)
        have hd1 : items1.drop j = p1 :: items1.drop (j + 1) := by
          rw [List.drop_eq_getElem_cons hlt1]
          rw [List.getElem?_eq_getElem hlt1] at ep1
          rw [Option.some.inj ep1]
        rw [hd1] at hc7
        have A8 := (A7.same s8).wipe vs1
        refine ⟨_, _, _, p1, _, A8, hr1, hc7, fun env2 σ2 q4 A9 st2 => ⟨wipe_eq st2 hs1, ?_⟩⟩
        refine ⟨_, _, env2, _, A9, q4, fun b1 H9 q5 s9 => ?_⟩
        have k9 : ∀ b x, b ≠ D → H6 b = some x → H9 b = some x := fun b x n e => s9 b x (s8 b x (keep7 b x n e))
        cases b1 with
        | true =>
          simp only [if_true] at q5 ⊢
          refine tE_use (A9.same s9) q5 fun q vq H10 r10 s10 e10 _ => ?_
          obtain ⟨hl, r10⟩ := r10
          obtain ⟨accV, z1, z2, z3⟩ := ((a7.same s8).same (s9.trans s10)).push hD e10 hl
          exact ⟨accV, z1, z2, acc7 ++ [q], z3, fun b x n e => by rw [upd_ne n]; exact s10 b x (k9 b x n e), r10⟩
        | false =>
          simp only [Bool.false_eq_true, if_false] at q5 ⊢
          exact ⟨acc7, (a7.same s8).same s9, k9, q5⟩
      · have ej : j = items1.length := by omega
        subst ej
        rw [List.drop_length] at hc7
        exact .inl ⟨wk1.stops H7 g1, acc7, a7, hc7⟩
  · have e : i = items.length := by omega
    subst e
    rw [List.drop_length] at hc
    obtain ⟨g1, g2, g3⟩ := a.out A1.dom s1 hD
    exact .inl ⟨wk.stops H2 g, k _ _ H2 hc g1 g2 fun _ => g3⟩
theorem so_comp2 {it it1 : It} {tg tg1 : Tg} {c c1 : TO} {e : E} {vs vs1 : List Nat} {elt etg iter etg1 iter1 : Expr} {ifs ifs1 : List Expr} {scope : Scope} {own : List (Str × Nat)} {pos : Pos} (hov : own.map (·.2) = vs) (hc : X.calm = true) (hN : X.N.Nodup) (ok : BlkOk X.N X.env.scope scope own) (hs : ∀ i ∈ slotsT tg, i ∈ vs) (hs1 : ∀ i ∈ slotsT tg1, i ∈ vs1) (hv1 : ∀ i ∈ vs1, i ∈ vs)
    (hi : PI X etg iter (tI C sp true it)) (hg : ∀ (s : Shared) (H : Hp) (C' : Addr) (cl : List (Str × Addr)) (fp : List Addr), PG (X.blk s H scope (compEnvC scope cl C' X.env) fp) etg (tG C tg)) (ht : ∀ (s : Shared) (H : Hp) (C' : Addr) (cl : List (Str × Addr)) (fp : List Addr), PTs (X.blk s H scope (compEnvC scope cl C' X.env) fp) ifs (tTO C sp c))
    (hi1 : ∀ (s : Shared) (H : Hp) (C' : Addr) (cl : List (Str × Addr)) (fp : List Addr), PI (X.blk s H scope (compEnvC scope cl C' X.env) fp) etg1 iter1 (tI C sp false it1))
    (hg1 : ∀ (s : Shared) (H : Hp) (C' : Addr) (cl : List (Str × Addr)) (fp : List Addr), PG (X.blk s H scope (compEnvC scope cl C' X.env) fp) etg1 (tG C tg1)) (ht1 : ∀ (s : Shared) (H : Hp) (C' : Addr) (cl : List (Str × Addr)) (fp : List Addr), PTs (X.blk s H scope (compEnvC scope cl C' X.env) fp) ifs1 (tTO C sp c1))
    (he : ∀ (s : Shared) (H : Hp) (C' : Addr) (cl : List (Str × Addr)) (fp : List Addr), PE (X.blk s H scope (compEnvC scope cl C' X.env) fp) elt (tE C sp e)) (hf : ∀ env x, foldedSetIterable iter env x = pure x) (hf1 : ∀ env x, foldedSetIterable iter1 env x = pure x) :
    PE X (.ListComp elt [⟨etg, iter, ifs, 0⟩, ⟨etg1, iter1, ifs1, 0⟩] scope pos) (tE C sp (.comp2 it tg c it1 tg1 c1 e vs vs1)) := by
  subst hov
  exact (pe_lc2 hc hN hi ok hv1 hg ht hi1 hg1 ht1 he (hf _) hf1).conv (so_comp2_read hs hs1)
end
end Lh
/-! E12: methods, counting, kinds, ranges as values, enumerate. -/
namespace Lh
open PySem PySem.Spec PyProof.Rows L2
/-! ### text.count(sign) -/
section
open PySem.StrLaws PySem.Builtin PySem.Builtin.Str
theorem occ_size (x : Str) (c L limit : Nat) (hL : x.length = L) : ∀ (n a : Nat) (st : Array Nat × Nat), st.2 ≤ a → st.1.size + n ≤ limit →
    ((forIn (List.range' a n) st (occBody x ⟨#[c]⟩ L limit)).run.fst).size = st.1.size + (List.range' a n).countP fun i => decide (x.cps.toList[i]? = some c)
  | 0, a, st, _, _ => by simp
  | n + 1, a, st, h1, h2 => by
    rw [List.range'_succ, List.forIn_cons]
    unfold occBody
    by_cases hc : x.cps.toList[a]? = some c
    · have hs := (subAt_one x c a).mpr hc
      rw [if_pos ⟨⟨⟨by omega, h1⟩, by rw [← hL]; exact hs.1⟩, hs.2⟩]
      show ((forIn (List.range' (a + 1) n) (st.1.push a, a + 1) (occBody x ⟨#[c]⟩ L limit)).run.fst).size = _
      rw [occ_size x c L limit hL n (a + 1) _ (Nat.le_refl _) (by rw [Array.size_push]; omega), Array.size_push, List.countP_cons, if_pos (decide_eq_true hc)]
      omega
    · rw [if_neg fun z => hc ((subAt_one x c a).mp ⟨by rw [hL]; exact z.1.2, z.2⟩)]
      show ((forIn (List.range' (a + 1) n) (st.1, st.2) (occBody x ⟨#[c]⟩ L limit)).run.fst).size = _
      rw [occ_size x c L limit hL n (a + 1) (st.1, st.2) (by show st.2 ≤ a + 1; omega) (by show st.1.size + n ≤ limit; omega), List.countP_cons, if_neg (by simpa using hc)]
      rfl
theorem count_range {c : Nat} : ∀ (l : List Nat) (a : Nat) (f : Nat → Option Nat), (∀ i, f (a + i) = l[i]?) → (List.range' a (l.length + 1)).countP (fun i => decide (f i = some c)) = l.count c
  | [], a, f, h => by
    have := h 0
    simp at this
    simp [List.range'_succ, this]
  | y :: l, a, f, h => by
    have h0 := h 0
    simp at h0
    rw [List.length_cons, List.range'_succ, List.countP_cons, count_range l (a + 1) f (fun i => by have := h (i + 1); simpa [Nat.add_assoc, Nat.add_comm 1 i] using this), h0, List.count_cons]
    simp
theorem count_one (s : List Nat) (c : Nat) : Txt.count ⟨s.toArray⟩ ⟨#[c]⟩ = ((s.count c : Nat) : Int) := by
  have hl : (⟨s.toArray⟩ : Str).length = s.length := by simp [Str.length]
  show (((occurrences ⟨s.toArray⟩ ⟨#[c]⟩ 0 (⟨s.toArray⟩ : Str).length ((⟨s.toArray⟩ : Str).length + 1)).length : Nat) : Int) = _
  rw [occ_eq, Array.length_toList, hl, Nat.sub_zero, occ_size ⟨s.toArray⟩ c s.length (s.length + 1) hl (s.length + 1) 0 (#[], 0) (Nat.le_refl _) (by simp)]
  rw [count_range s 0 _ fun i => by simp]
  simp
end
section
variable {C : Cn} {sp : SpT} {X : Cx}
/-! ### methods of built-in types -/
theorem few {ea : Expr} {env : PySem.Env} {cpos : Pos} (hp : plainA ea = true) : ((backTo cpos (starEach [ea] env)).all (fun x => !x.1) && (backToKw cpos (keywordEach [] env)).all (fun x => x.1.isSome)
      && decide (([ea] : List Expr).length + ([] : List Keyword).length + (if ([] : List Keyword).isEmpty then 0 else 1) < 30)) = true := by
  rw [starAll (as := [ea]) (by simp [hp])]; rfl
theorem so_m1 {m : M1} {a b : E} {ea eb : Expr} {nm : Str} {T id : String} {apos cpos : Pos} {r : V → List V → Hp → VK → Prop} (hK : X.K = C.K) (pa : PlainAttrs T) (slot : PySem.Slot T nm id) (hty : typeOf (.builtin id) = pure (.type "method_descriptor")) (hm : MtR X id r)
    (hbase : attributeBase ea nm X.env (eval ea X.env) = eval ea X.env) (hline : (apos.endLine == cpos.line) = true) (hp : plainA eb = true) (ha : PE X ea (tB C sp a)) (hb : PE X eb (tE C sp b))
    (hT : ∀ (O : Addr → Prop) (H : Hp) x vx, m1K m x = true → RepB C O H x vx → tyV C.K T vx H) (hR : ∀ (O : Addr → Prop) (H : Hp) x vx y vy R (Q : VK), RepB C O H x vx → Rep C O H y vy → m1R m x y R → (∀ i, R (.int i) → Q (.int i) H) → (∀ z : List Nat, R (.str z) → Q (.str ⟨z.toArray⟩) H) → r vx [vy] H Q) :
    PE X (.Call (.Attribute ea nm apos) [eb] [] cpos) (tE C sp (.m1 m a b)) := by
  refine (pe_bm pa slot hty hm ha (pa_cons hb pa_nil (star1 hp)) hbase (few hp) hline (star1 hp) rfl).conv fun σ H Q q => ?_
  obtain ⟨cc, O, env, R, A, hv, k⟩ := q
  refine tB_use A hv fun x vx H1 r1 s1 e1 => ⟨by rw [hK]; exact hT O H1 x vx r1.1 e1, ?_⟩
  refine tE_use (A.same s1) r1.2 fun y vy H2 r2 s2 e2 _ => ?_
  exact hR O H2 x vx y vy R Q (e1.ext s2) e2 r2 (fun i r => k _ _ H2 r (s1.trans s2) rfl (fun z => nomatch z)) fun i r => k _ _ H2 r (s1.trans s2) rfl (fun z => nomatch z)
theorem so_scount {a b : E} {ea eb : Expr} {apos cpos : Pos} (hK : X.K = C.K) (hbase : attributeBase ea "count" X.env (eval ea X.env) = eval ea X.env) (hline : (apos.endLine == cpos.line) = true) (hp : plainA eb = true) (ha : PE X ea (tB C sp a)) (hb : PE X eb (tE C sp b)) :
    PE X (.Call (.Attribute ea "count" apos) [eb] [] cpos) (tE C sp (.m1 .scount a b)) := by
  refine so_m1 hK PySem.F.plainAttrs_str PySem.F.slot_str_count PySem.F.type_str_count mt_count hbase hline hp ha hb (fun O H x vx h e => ?_) (fun O H x vx y vy R Q ex ey h k _ => ?_)
  · cases x <;> first | cases h | skip
    cases e.nl (fun _ z => nomatch z)
    exact rfl
  · cases x <;> first | exact h.elim | skip
    cases y <;> first | exact h.elim | skip
    rename_i s t
    match t, h, ey with
    | [c], h, ey =>
      cases ex.nl (fun _ z => nomatch z)
      cases ey
      exact ⟨_, _, rfl, rfl, by rw [show (⟨[c].toArray⟩ : Str) = ⟨#[c]⟩ from rfl, count_one]; exact k _ h⟩
    | [], h, _ => exact h.elim
    | _ :: _ :: _, h, _ => exact h.elim
theorem so_lcount {a b : E} {ea eb : Expr} {apos cpos : Pos} (hK : X.K = C.K) (hbase : attributeBase ea "count" X.env (eval ea X.env) = eval ea X.env) (hline : (apos.endLine == cpos.line) = true) (hp : plainA eb = true) (ha : PE X ea (tB C sp a)) (hb : PE X eb (tE C sp b)) :
    PE X (.Call (.Attribute ea "count" apos) [eb] [] cpos) (tE C sp (.m1 .lcount a b)) := by
  refine so_m1 hK PySem.F.plainAttrs_list PySem.F.slot_list_count PySem.F.type_list_count mt_lcount hbase hline hp ha hb (fun O H x vx h e => ?_) (fun O H x vx y vy R Q ex ey h k _ => ?_)
  · cases x <;> first | cases h | skip
    obtain ⟨p, vs, rfl, h1, _⟩ := e.list
    exact .inl ⟨rfl, vs, .inl (.inl h1)⟩
  · cases x <;> first | exact h.elim | skip
    cases y <;> first | exact h.elim | skip
    obtain ⟨ns, e, q⟩ := h
    obtain ⟨p, rfl, h4⟩ := intsB ex e
    cases ey
    rw [hK]
    exact ⟨p, ns, _, rfl, rfl, h4, k _ q⟩
theorem strsOf_reps {O : Addr → Prop} {H : Hp} : ∀ {l : List PV} {ss : List (List Nat)} {vs : List V}, strsOf l = some ss → Reps C O H l vs → vs = (ss.map fun z => (⟨z.toArray⟩ : Str)).map V.str
  | [], ss, vs, e, h => by cases e; exact h
  | p :: l, ss, vs, e, h => by
    obtain ⟨v, r, rfl, h1, h2⟩ := h
    cases p <;> first | cases e | skip
    simp only [strsOf, Option.map_eq_some_iff] at e
    obtain ⟨ss', e, rfl⟩ := e
    cases h1
    rw [strsOf_reps e h2]; rfl
theorem joinL_nil : ∀ ss : List (List Nat), TL.joinL [] ss = ss.flatten
  | [] => rfl
  | [p] => by simp [TL.joinL]
  | p :: q :: r => by
    show p ++ ([] ++ TL.joinL [] (q :: r)) = _
    rw [joinL_nil (q :: r)]; simp
theorem so_join {a b : E} {ea eb : Expr} {apos cpos : Pos} (hK : X.K = C.K) (hbase : attributeBase ea "join" X.env (eval ea X.env) = eval ea X.env) (hline : (apos.endLine == cpos.line) = true) (hp : plainA eb = true) (ha : PE X ea (tB C sp a)) (hb : PE X eb (tE C sp b)) :
    PE X (.Call (.Attribute ea "join" apos) [eb] [] cpos) (tE C sp (.m1 .join a b)) := by
  refine so_m1 hK PySem.F.plainAttrs_str PySem.F.slot_str_join PySem.F.type_str_join mt_join hbase hline hp ha hb (fun O H x vx h e => ?_) (fun O H x vx y vy R Q ex ey h _ k => ?_)
  · cases x <;> first | cases h | skip
    cases e.nl (fun _ z => nomatch z)
    exact rfl
  · cases x <;> first | exact h.elim | skip
    rename_i s
    rcases s with _ | ⟨c, s⟩
    rotate_left
    · cases y <;> exact h.elim
    cases y <;> first | exact h.elim | skip
    obtain ⟨ss, e, hl, q⟩ := h
    cases ex.nl (fun _ z => nomatch z)
    obtain ⟨p, vs, rfl, h1, h2⟩ := (show RepB C O H (.lst _) vy from .inl ey).list
    rw [strsOf_reps e h2] at h1
    refine ⟨_, p, ss.map fun z => (⟨z.toArray⟩ : Str), rfl, rfl, .inl (.inl (.inl h1)), ?_, ?_⟩
    · have e1 : (ss.map fun z => (⟨z.toArray⟩ : Str)).map (·.length) = ss.map List.length := by
        rw [List.map_map]
        refine List.map_congr_left fun z _ => ?_
        simp [Str.length]
      rw [e1]
      show (ss.map List.length).sum + _ * 0 ≤ _
      omega
    · have e2 : Txt.join (⟨([] : List Nat).toArray⟩ : Str) (ss.map fun z => (⟨z.toArray⟩ : Str)) = ⟨ss.flatten.toArray⟩ := by
        rw [← joinL_nil]
        exact SX.join_S [] ss
      rw [e2]
      exact k _ q
theorem so_lindex {a b : E} {ea eb : Expr} {apos cpos : Pos} (hK : X.K = C.K) (hbase : attributeBase ea "index" X.env (eval ea X.env) = eval ea X.env) (hline : (apos.endLine == cpos.line) = true) (hp : plainA eb = true) (ha : PE X ea (tB C sp a)) (hb : PE X eb (tE C sp b)) :
    PE X (.Call (.Attribute ea "index" apos) [eb] [] cpos) (tE C sp (.m1 .lindex a b)) := by
  refine so_m1 hK PySem.F.plainAttrs_list PySem.F.slot_list_index PySem.F.type_list_index mt_index hbase hline hp ha hb (fun O H x vx h e => ?_) (fun O H x vx y vy R Q ex ey h k _ => ?_)
  · cases x <;> first | cases h | skip
    obtain ⟨p, vs, rfl, h1, _⟩ := e.list
    exact .inl ⟨rfl, vs, .inl (.inl h1)⟩
  · cases x <;> first | exact h.elim | skip
    obtain ⟨f1, f2, j, z, h1, h2, h3, h4⟩ := h
    obtain ⟨p, vs, rfl, g1, g2⟩ := ex.list
    obtain ⟨w, g3, g4⟩ := g2.get h1
    have fz : ∀ (i : Nat) (z : PV), _ → flatP z = true := fun i z (hz : (_ : List PV)[i]? = some z) => (List.all_eq_true.mp f2) z (List.mem_of_getElem? hz)
    rw [hK]
    refine ⟨p, vs, vy, j, w, rfl, rfl, .inl (.inl g1), flat_rep ey f1, flat_reps g2 f2, g3, by rw [eq_rep g4 (fz _ _ h1) ey f1]; exact h2, fun i w' hi hw => ?_, k _ h4⟩
    obtain ⟨z', q1, q2⟩ := g2.get' hw
    rw [eq_rep q2 (fz _ _ q1) ey f1]
    exact h3 i z' hi q1
theorem so_sindex {a b : E} {ea eb : Expr} {apos cpos : Pos} (hK : X.K = C.K) (hbase : attributeBase ea "index" X.env (eval ea X.env) = eval ea X.env) (hline : (apos.endLine == cpos.line) = true) (hp : plainA eb = true) (ha : PE X ea (tB C sp a)) (hb : PE X eb (tE C sp b)) :
    PE X (.Call (.Attribute ea "index" apos) [eb] [] cpos) (tE C sp (.m1 .sindex a b)) := by
  refine so_m1 hK PySem.F.plainAttrs_str PySem.F.slot_str_index PySem.F.type_str_index mt_sindex hbase hline hp ha hb (fun O H x vx h e => ?_) (fun O H x vx y vy R Q ex ey h k _ => ?_)
  · cases x <;> first | cases h | skip
    cases e.nl (fun _ z => nomatch z)
    exact rfl
  · cases x <;> first | exact h.elim | skip
    cases y <;> first | exact h.elim | skip
    rename_i s t
    match t, h, ey with
    | [c], h, ey =>
      cases ex.nl (fun _ z => nomatch z)
      cases ey
      obtain ⟨i, h1, h2, h3⟩ := h
      have at_ : ∀ k, PySem.StrLaws.At (⟨s.toArray⟩ : Str) ⟨#[c]⟩ (⟨s.toArray⟩ : Str).length k ↔ s[k]? = some c := fun k => by
        have := PySem.StrLaws.subAt_one ⟨s.toArray⟩ c k
        simpa [PySem.StrLaws.At] using this
      rcases PySem.StrLaws.occ_head ⟨s.toArray⟩ ⟨#[c]⟩ 1 (Nat.le_refl 1) with ⟨_, hn⟩ | ⟨i', r, e, g1, g2⟩
      · exact absurd ((at_ i).mpr h1) (hn i)
      · have : i' = i := by
          have a1 := (at_ i').mp g1
          have : ¬ i' < i := fun z => h2 i' z a1
          have : ¬ i < i' := fun z => g2 i z ((at_ i).mpr h1)
          omega
        subst this
        exact ⟨_, _, i', r, rfl, rfl, e, k _ h3⟩
    | [], h, _ => exact h.elim
    | _ :: _ :: _, h, _ => exact h.elim
/-! ### isinstance -/
structure IsiF (C : Cn) : Prop where
  ins : ∀ c ∈ C.cs, PySem.W.findIn C.K (.ref (C.ga c)) "__class__" = some (some (.builtin "object.__class__")) ∧ PySem.W.specialIn C.K (.builtin "object.__class__") "__get__" = some (some (.builtin "getset_descriptor.__get__")) ∧ PySem.W.takesIn C.K (.builtin "object.__class__") = some true ∧ PySem.W.mroIn C.K (C.ga c) (.type "object") = some true
  oo : ∀ c ∈ C.cs, ∀ d ∈ C.cs, PySem.W.kitOne C.K (.ref (C.ga c)) (.ref (C.ga d)) = some (c == d)
  ob : ∀ c ∈ C.cs, ∀ n ∈ tyNames, PySem.W.kitOne C.K (.ref (C.ga c)) (.type n) = some false
  bo : ∀ n ∈ tyNames, ∀ d ∈ C.cs, PySem.W.kitOne C.K (.type n) (.ref (C.ga d)) = some false
  sf : ∀ c ∈ C.cs, PySem.W.selfFirst C.K (C.ga c) = true
/-- the type of a value -/
def tyN : PV → String
  | .int _ => "int" | .bl _ => "bool" | .non => "NoneType" | .str _ => "str" | .lst _ => "list" | _ => "tuple"
def tyV1 (C : Cn) : Ty → V × Value
  | .int => (.ty "int", .type "int") | .bool => (.ty "bool", .type "bool") | .list => (.ty "list", .type "list") | .tuple => (.ty "tuple", .type "tuple") | .str => (.ty "str", .type "str")
  | .cls c => (.ref (C.ga c), .ref (C.ga c))
def tyOf? (C : Cn) : Ty → Prop
  | .cls c => c ∈ C.cs
  | _ => True
theorem isi_ok {O : Addr → Prop} {H : Hp} (F : IsiF C) {x : PV} {v : V} {t : Ty} (h : RepB C O H x v) (ho : tyOk x = true) (ht : tyOf? C t) : ∃ tv, TyX C.K H v tv ∧ PySem.W.kitOne C.K tv (tyV1 C t).2 = some (isTy x t) := by
  have built : ∀ n, n ∈ tyNames → TyX C.K H v (.type n) → (∀ c, t = .cls c → isTy x t = false) → (∀ m, (tyV1 C t).2 = .type m → kitB n m = some (isTy x t)) → ∃ tv, TyX C.K H v tv ∧ PySem.W.kitOne C.K tv (tyV1 C t).2 = some (isTy x t) := by
    intro n hn ty h1 h2
    refine ⟨_, ty, ?_⟩
    cases t with
    | cls c => rw [h1 c rfl]; exact F.bo n hn c ht
    | int => exact kit_ty (h2 _ rfl)
    | bool => exact kit_ty (h2 _ rfl)
    | list => exact kit_ty (h2 _ rfl)
    | tuple => exact kit_ty (h2 _ rfl)
    | str => exact kit_ty (h2 _ rfl)
  cases x with
  | int i =>
    cases h.nl (fun _ z => nomatch z)
    exact built "int" (by decide) (.base (.int _)) (fun c e => by subst e; rfl) (fun m e => by cases t <;> cases e <;> (simp only [isTy]; decide +kernel))
  | bl i =>
    cases h.nl (fun _ z => nomatch z)
    exact built "bool" (by decide) (.base (.bl _)) (fun c e => by subst e; rfl) (fun m e => by cases t <;> cases e <;> (simp only [isTy]; decide +kernel))
  | non =>
    cases h.nl (fun _ z => nomatch z)
    exact built "NoneType" (by decide) (.base .non) (fun c e => by subst e; rfl) (fun m e => by cases t <;> cases e <;> (simp only [isTy]; decide +kernel))
  | str i =>
    cases h.nl (fun _ z => nomatch z)
    exact built "str" (by decide) (.base (.str _)) (fun c e => by subst e; rfl) (fun m e => by cases t <;> cases e <;> (simp only [isTy]; decide +kernel))
  | tup l =>
    obtain ⟨a, vs, rfl, h1, h2⟩ := h.nl (fun _ z => nomatch z)
    refine built "tuple" (by decide) ?_ (fun c e => by subst e; rfl) (fun m e => by cases t <;> cases e <;> (simp only [isTy]; decide +kernel))
    rcases h1 with ⟨_, h1⟩ | h1 | ⟨o, its, n, e1, e2, _⟩
    · exact .base (.tup h1)
    · exact (rd0 h1).elim
    · exact .kTuple e1 e2
  | lst l =>
    obtain ⟨a, vs, rfl, h1, h2⟩ := h.list
    exact built "list" (by decide) (.base (.lst h1)) (fun c e => by subst e; rfl) (fun m e => by cases t <;> cases e <;> (simp only [isTy]; decide +kernel))
  | obj c fs =>
    obtain ⟨a, dx, fvs, rfl, h1, ⟨hc, h2⟩, h3⟩ := h.nl (fun _ z => nomatch z)
    obtain ⟨g1, g2, g3, g4⟩ := F.ins c hc
    refine ⟨_, .base (.ins h1.2 h2 g1 g2 g3 g4), ?_⟩
    cases t with
    | cls d => exact F.oo c hc d ht
    | int => exact F.ob c hc "int" (by decide)
    | bool => exact F.ob c hc "bool" (by decide)
    | list => exact F.ob c hc "list" (by decide)
    | tuple => exact F.ob c hc "tuple" (by decide)
    | str => exact F.ob c hc "str" (by decide)
  | ro _ => cases ho
  | rng _ _ => cases ho
theorem so_isi {a : E} {t : Ty} {ea et : Expr} {p pos : Pos} (hK : X.K = C.K) (F : IsiF C) (ht : tyOf? C t) (hg : Gl X "isinstance") (hm : X.mg "isinstance" = none) (hp : plainA ea = true) (hp2 : plainA et = true) (ha : PE X ea (tB C sp a)) (hb : PE X et (tC (tyV1 C t).1)) :
    PE X (.Call (.Name "isinstance" p) [ea, et] [] pos) (tE C sp (.isi a t)) := by
  refine (pe_callB call_isi hg hm PyProof.Rows.boot_isinstance (pa_cons ha (pa_cons hb pa_nil (star1 hp2)) (star1 hp)) (by decide) (by decide) (star1 hp) (starN (by simp [hp2]))).conv fun σ H Q q => ?_
  obtain ⟨cc, O, env, R, A, hv, k⟩ := q
  refine tB_use A hv fun x vx H1 r1 s1 e1 => ?_
  obtain ⟨tv, h1, h2⟩ := isi_ok F e1 r1.1 ht
  rw [hK]
  refine ⟨vx, _, tv, _, _, rfl, ?_, h1, h2, k _ _ H1 r1.2 s1 rfl (fun z => nomatch z)⟩
  cases t <;> first | exact .ty _ | exact .own _
/-! ### ranges -/
theorem so_lrng {a : E} {ea : Expr} {p p2 pos pos2 : Pos} (hc : X.calm = true) (hg : Gl X "list") (hm : X.mg "list" = none) (hg2 : Gl X "range") (hm2 : X.mg "range" = none) (hp : plainA ea = true) (ha : PE X ea (tE C sp a)) :
    PE X (.Call (.Name "list" p) [.Call (.Name "range" p2) [ea] [] pos2] [] pos) (tE C sp (.lrng a)) := by
  refine (pe_listRg hc hg hm (prg_1 hg2 hm2 ha (star1 hp)) rfl).conv fun σ H Q q => ?_
  obtain ⟨cc, O, env, R, A, hv, k⟩ := q
  refine tE_use A hv fun x vx H1 r1 s1 e1 _ => ?_
  cases x <;> first | exact r1.elim | skip
  rename_i n _
  cases e1
  obtain ⟨h1, r1⟩ := r1
  refine ⟨n, rfl, ⟨by omega, by omega, by omega, by omega, by omega⟩, fun q hq => ?_⟩
  have rr : Reps C O H1 (rangeL 0 n.toNat) (rgV 0 n) := by
    unfold rangeL rgV
    rw [Int.sub_zero]
    generalize List.range n.toNat = l
    induction l with
    | nil => rfl
    | cons i l ih => exact ⟨_, _, rfl, rfl, ih⟩
  exact k _ _ _ r1 (s1.trans (same_new hq)) (new_list (A.dom.same s1) hq rr).1 fun _ => (new_list (A.dom.same s1) hq rr).2.back s1
theorem so_lrng2 {a b : E} {ea eb : Expr} {p p2 pos pos2 : Pos} (hc : X.calm = true) (hg : Gl X "list") (hm : X.mg "list" = none) (hg2 : Gl X "range") (hm2 : X.mg "range" = none) (hp : plainA ea = true) (hp2 : plainA eb = true) (ha : PE X ea (tE C sp a)) (hb : PE X eb (tE C sp b)) :
    PE X (.Call (.Name "list" p) [.Call (.Name "range" p2) [ea, eb] [] pos2] [] pos) (tE C sp (.lrng2 a b)) := by
  refine (pe_listRg hc hg hm (prg_2 hg2 hm2 ha hb (star1 hp) (star1 hp2) (starN (by simp [hp2]))) rfl).conv fun σ H Q q => ?_
  obtain ⟨cc, O, env, R, A, hv, k⟩ := q
  refine tE_use A hv fun x vx H1 r1 s1 e1 fr1 => ?_
  refine tE_use (A.same s1) r1 fun y vy H2 r2 s2 e2 fr2 => ?_
  cases x <;> first | (cases y <;> exact r2.elim) | skip
  cases y <;> first | exact r2.elim | skip
  rename_i i j
  cases e1
  cases e2
  obtain ⟨⟨h1, h2⟩, r2⟩ := r2
  refine ⟨i, j, rfl, rfl, ⟨by omega, by omega, by omega, by omega, by omega⟩, fun q hq => ?_⟩
  have rr : Reps C O H2 (rangeL i (j - i).toNat) (rgV i j) := by
    unfold rangeL rgV
    generalize List.range (j - i).toNat = l
    induction l with
    | nil => rfl
    | cons i l ih => exact ⟨_, _, rfl, rfl, ih⟩
  exact k _ _ _ r2 (s1.trans (s2.trans (same_new hq))) (new_list (A.dom.same (s1.trans s2)) hq rr).1 fun _ => (new_list (A.dom.same (s1.trans s2)) hq rr).2.back (s1.trans s2)
theorem cr_rng1 : CallR X (.type "range") (fun vs H Q => ∃ j, vs = [V.int j] ∧ ∀ p, H p = none → Q (.ref p) (upd H p (.rng 0 j))) := by
  intro pins s σ H vs us Q I r h
  obtain ⟨j, rfl, q⟩ := h
  obtain ⟨u1, rfl, t, rfl⟩ := vals1 r
  refine call_range_1 ⟨.ref s.heap.objs.size, upd H s.heap.objs.size (.rng 0 j), I.laid (t' := s.toks + 1 + 1) (fun b o e => Heap.get?_push_of_some _ e) (Nat.le_refl _) ?_, rfl, q _ (I.hok.fresh (Nat.le_refl _))⟩
  exact ⟨_, _, _, Heap.get?_push_size _ rfl⟩
theorem so_rng1 {a : E} {ea : Expr} {p pos : Pos} (hg : Gl X "range") (hm : X.mg "range" = none) (hp : plainA ea = true) (ha : PE X ea (tE C sp a)) : PE X (.Call (.Name "range" p) [ea] [] pos) (tE C sp (.rng1 a)) := by
  refine (pe_callTy cr_rng1 hg hm boot_range (pa_cons ha pa_nil (star1 hp)) (by decide) (by decide) (star1 hp) rfl).conv fun σ H Q q => ?_
  obtain ⟨cc, O, env, R, A, hv, k⟩ := q
  refine tE_use A hv fun x vx H1 r1 s1 e1 _ => ?_
  cases x <;> first | exact r1.elim | skip
  rename_i n _
  cases e1
  refine ⟨n, rfl, fun q hq => k _ _ _ r1.2 (s1.trans (same_new hq)) ⟨q, rfl, ⟨fun o => (A.dom.same s1) q o hq, upd_same⟩, ⟨by decide, by decide⟩, r1.1⟩ (fun z => nomatch z)⟩
/-! ### a method of one's own class, that changes nothing -/
theorem RepF.nolook {O : Addr → Prop} {H : Hp} {c : Nat} {nm : Str} (h : ∀ f, C.nm f ≠ some nm) : ∀ {fs : List (Nat × PV)} {vs : List (Str × V)}, RepF C O H c fs vs → vs.lookup nm = none
  | [], _, e => by cases e; rfl
  | (k, p) :: r, _, e => by
    obtain ⟨s, v, t, rfl, h1, _, h2⟩ := e
    have : (nm == s) = false := by rw [beq_eq_false_iff_ne]; rintro rfl; exact h k h1.1
    rw [List.lookup_cons, this]
    exact RepF.nolook h h2
theorem OFs.nolook {O : Addr → Prop} {H : Hp} {c : Nat} {nm : Str} (h : ∀ f, C.nm f ≠ some nm) : ∀ {fs : List (Nat × OF)} {vs : List (Str × V)} {fp : List Addr}, OFs C O H c fs vs fp → vs.lookup nm = none
  | [], _, _, e => by obtain ⟨rfl, _⟩ := e; rfl
  | (k, p) :: r, _, _, e => by
    obtain ⟨s, v, t, f1, f2, rfl, _, h1, _, h2⟩ := e
    have : (nm == s) = false := by rw [beq_eq_false_iff_ne]; rintro rfl; exact h k h1.1
    rw [List.lookup_cons, this]
    exact OFs.nolook h h2
theorem obj_at {O : Addr → Prop} {H : Hp} {c : Nat} {nm : Str} {m : Md} {t : OV} {v : V} {f : List Addr} (h : ∀ f, C.nm f ≠ some nm) (a : ArgR C O H m t v f) (e : isObj c t = true) : ∃ a dx fs, v = .ref a ∧ H a = some (.ins (C.ga c) dx fs) ∧ fs.lookup nm = none := by
  have fz : ∀ {p : PV} {v : V}, isObj c (.fz p) = true → Rep C O H p v → ∃ a dx fs, v = .ref a ∧ H a = some (.ins (C.ga c) dx fs) ∧ fs.lookup nm = none := by
    intro p v e r
    cases p <;> first | cases e | skip
    rename_i d fs
    obtain ⟨a, dx, fvs, rfl, h1, h2, h3⟩ := r
    have hd : d = c := by simpa [isObj] using e
    subst hd
    exact ⟨a, dx, fvs, rfl, h1.2, h3.nolook h⟩
  have ob : ∀ {d : Nat} {fs : List (Nat × OF)} {v : V}, isObj c (.obj d fs) = true → OVR C O H (.obj d fs) v f → ∃ a dx fs, v = .ref a ∧ H a = some (.ins (C.ga c) dx fs) ∧ fs.lookup nm = none := by
    intro d fs v e r
    obtain ⟨a, dx, fvs, f1, rfl, h1, h2, h3, h4⟩ := r
    have : d = c := by simpa [isObj] using e
    subst this
    exact ⟨a, dx, fvs, rfl, h1, h3.nolook h⟩
  cases t with
  | fz p =>
    cases m with
    | va => exact fz e a.1
    | bo =>
      rcases a with ⟨a, _⟩ | ⟨l, rfl, _⟩
      · exact fz e a
      · cases e
    | io => exact absurd a.2 (by simp [isFz])
  | lst l => cases e
  | obj d fs =>
    cases m with
    | va => exact a.elim
    | bo => exact ob e a
    | io => exact ob e a.1
theorem eval_meth {y nm : Str} {yp apos pos : Pos} {args : List Expr} {env : PySem.Env} (hp : args.all plainA = true) (hn : args.length < 25) (hl : (apos.endLine == pos.line) = true) :
    eval (.Call (.Attribute (.Name y yp) nm apos) args [] pos) env = (do
      let ov ← eval (.Name y yp) env
      standAt apos.atName
      let (f, first) ← holding [ov] (getMethod ov nm (do return (← importBound (.Name y yp) env).getD true))
      callWith pos f first (backTo pos (starEach args env)) (backToKw pos (keywordEach [] env))) := by
  have hf : methodCallForm (args.length + ([] : List Keyword).length) (backTo pos (starEach args env)) (backToKw pos (keywordEach [] env)) = true := by
    unfold methodCallForm
    rw [starAll hp]
    show (true && true && decide (args.length + 0 + 0 < 30)) = true
    simp
    omega
  show (do
    let ov ← eval (.Name y yp) env
    standAt apos.atName
    methodCall (.Name y yp) nm apos pos env ov (args.length + ([] : List Keyword).length) (backTo pos (starEach args env)) (backToKw pos (keywordEach [] env))) = _
  congr 1
  funext ov
  congr 1
  funext _
  unfold methodCall calleeOf methodCallPos
  rw [hf]
  simp only [if_true, hl, Bool.not_true, Bool.false_or]
  congr 1
theorem so_meth {c m j k : Nat} {ms : List Md} {o : E} {es : Es} {ea : Expr} {eas : List Expr} {y nm : Str} {yp apos pos : Pos} {f : Addr} {fd : FuncData} {ps : List Str} (hK : X.K = C.K) (hcl : C.Cl c) (M : Meth X.K (C.ga c) nm f) (F : FnOk X.prog X.w X.K X.mg X.base CX0 k f fd ps (spF C sp j (.bo :: ms))) (hr : Room k X.A) (hb : Binds X.K fd ps [])
    (hm : ms.all (fun m => match m with | .io => false | _ => true) = true) (hd : noDup (keysOf (.cons o es) (.bo :: ms)) = true) (hp : (ea :: eas).all plainA = true) (hnf : ∀ f, C.nm f ≠ some nm) (hline : (apos.endLine == pos.line) = true) (hn : (ea :: eas).length < 25) (ho : PE X (.Name y yp) (tA C sp .bo o)) (ha : PA X (ea :: eas) (tAs C sp es ms)) :
    PE X (.Call (.Attribute (.Name y yp) nm apos) (ea :: eas) [] pos) (tE C sp (.meth c m j ms o es)) := by
  have hp1 : plainA ea = true := by rw [List.all_cons, Bool.and_eq_true] at hp; exact hp.1
  have hp2 : eas.all plainA = true := by rw [List.all_cons, Bool.and_eq_true] at hp; exact hp.2
  refine (pe_meth ho (by rw [hK]; exact hcl.2) M F hr hb .nil pass0 ha (star1 hp1) (starN hp2) (eval_meth hp hn hline)).conv fun σ H Q q => ?_
  obtain ⟨cc, O, env, R, A, hv, k⟩ := q
  obtain ⟨fp, I⟩ := A.ex
  refine ⟨cc, O, env, fp, _, I, hv, fun t v f H1 r1 s1 a1 k1 => ?_⟩
  obtain ⟨b, dx, fs, rfl, h1, h2⟩ := obj_at hnf a1 r1.1
  refine ⟨b, dx, fs, rfl, h1, h2, ?_⟩
  refine ⟨cc, O, env, fp, _, I.same s1, r1.2, fun ts vs fs H2 r2 s2 a2 k2 => ?_⟩
  show spF C sp j (.bo :: ms) (V.ref b :: (vs ++ [])) H2 Q E0
  rw [List.append_nil]
  exact spF_of (es := .cons o es) ((I.same s1).same s2) (by rw [List.all_cons]; exact hm) hd r2 ⟨t, ts, _, vs, f, fs, rfl, rfl, rfl, a1.ext (ExtW.same s2), a2⟩ (fpr_cons k1 k2) fun p v H' r s e => k p v H' r ((s1.trans s2).trans s) e (fun z => nomatch z)
theorem so_meth0 {c m j k : Nat} {o : E} {y nm : Str} {yp apos pos : Pos} {f : Addr} {fd : FuncData} {ps : List Str} (hK : X.K = C.K) (hcl : C.Cl c) (M : Meth X.K (C.ga c) nm f) (F : FnOk X.prog X.w X.K X.mg X.base CX0 k f fd ps (spF C sp j [.bo])) (hr : Room k X.A) (hb : Binds X.K fd ps [])
    (hd : noDup (keysOf (.cons o .nil) [.bo]) = true) (hnf : ∀ f, C.nm f ≠ some nm) (hline : (apos.endLine == pos.line) = true) (ho : PE X (.Name y yp) (tA C sp .bo o)) :
    PE X (.Call (.Attribute (.Name y yp) nm apos) [] [] pos) (tE C sp (.meth c m j [] o .nil)) := by
  refine (pe_meth0 ho (by rw [hK]; exact hcl.2) M F hr hb .nil pass0 (eval_meth (args := []) rfl (by decide) hline)).conv fun σ H Q q => ?_
  obtain ⟨cc, O, env, R, A, hv, k⟩ := q
  obtain ⟨fp, I⟩ := A.ex
  refine ⟨cc, O, env, fp, _, I, hv, fun t v f H1 r1 s1 a1 k1 => ?_⟩
  obtain ⟨b, dx, fs, rfl, h1, h2⟩ := obj_at hnf a1 r1.1
  refine ⟨b, dx, fs, rfl, h1, h2, ?_⟩
  show spF C sp j [.bo] [_] H1 Q E0
  exact spF_of (es := .cons o .nil) (I.same s1) rfl hd r1.2 ⟨t, [], _, [], f, [], rfl, rfl, rfl, a1, rfl, rfl, rfl⟩ k1 fun p v H' r s e => k p v H' r (s1.trans s) e (fun z => nomatch z)
/-! ### the + of one's own class -/
theorem isObj_fz {c : Nat} {x : PV} (h : isObj c (.fz x) = true) : ∃ fs, x = .obj c fs := by
  cases x <;> first | cases h | skip
  rename_i d fs
  have : d = c := by simpa [isObj] using h
  subst this
  exact ⟨fs, rfl⟩
def rDun (C : Addr) (sp : Sp) : R2 := fun x y H Q => ∃ a dx vs b dy ws, x = .ref a ∧ y = .ref b ∧ H a = some (.ins C dx vs) ∧ H b = some (.ins C dy ws) ∧ sp [x, y] H Q E0
theorem op_dun {k : Nat} {f : Addr} {fd : FuncData} {ps : List Str} {D : Addr} {sp' : Sp} (hsf : PySem.W.selfFirst X.K D = true) (M : Meth X.K D "__add__" f) (F : FnOk X.prog X.w X.K X.mg X.base CX0 k f fd ps sp') (hr : Room k X.A) (hb : Binds X.K fd ps []) :
    OpR X (binaryOp .Add) (rDun D sp') := by
  intro pins s σ H x y v u Q I rx ry h
  obtain ⟨a, dx, vs, b, dy, ws, rfl, rfl, ha, hb', q⟩ := h
  cases (show v = Value.ref a from rx)
  cases (show u = Value.ref b from ry)
  obtain ⟨mA, O1, _⟩ := ins_get I.hok ha
  obtain ⟨mB, O2, _⟩ := ins_get I.hok hb'
  obtain ⟨od, J, _⟩ := O1.look
  obtain ⟨od', J', _⟩ := O2.look
  obtain ⟨m, hF⟩ := I.fr
  refine PySem.W.binop_K (op := .Add) hF I.ok.mod.kin J J'.type hsf M.at_ M.fn ?_
  refine wpAny_mono (run_fn (us := [.ref a, .ref b]) (vs := [.ref a, .ref b]) F hr hb .nil pass0 I (.cons rfl (.cons rfl .nil)) q) (fun w s' z => ?_) fun _ _ x => x
  obtain ⟨z', H', I', rz, qz⟩ := z
  exact SlX.cmpback rz ⟨z', H', I', rz, qz⟩
theorem so_dun {c j k : Nat} {a b : E} {ea eb : Expr} {pos : Pos} {f : Addr} {fd : FuncData} {ps : List Str} (hsf : PySem.W.selfFirst X.K (C.ga c) = true) (M : Meth X.K (C.ga c) "__add__" f) (F : FnOk X.prog X.w X.K X.mg X.base CX0 k f fd ps (spF C sp j [.va, .va])) (hr : Room k X.A) (hb : Binds X.K fd ps [])
    (ha : PE X ea (tE C sp a)) (hb' : PE X eb (tE C sp b)) : PE X (.BinOp ea .Add eb pos) (tE C sp (.dun c j a b)) := by
  refine (pe_op (op_dun hsf M F hr hb) ha hb').conv fun σ H Q q => ?_
  obtain ⟨cc, O, env, R, A, hv, k⟩ := q
  refine tE_use A hv fun x vx H1 r1 s1 e1 _ => ?_
  refine tE_use (A.same s1) r1 fun y vy H2 r2 s2 e2 _ => ?_
  obtain ⟨h1, h2, r2⟩ := r2
  have e1 := e1.ext (Ext.same s2)
  obtain ⟨fx, rfl⟩ := isObj_fz h1
  obtain ⟨fy, rfl⟩ := isObj_fz h2
  have e1' := e1
  have e2' := e2
  obtain ⟨a1, dx, fvs, rfl, g1, g2, g3⟩ := e1
  obtain ⟨a2, dy, fws, rfl, g4, g5, g6⟩ := e2
  obtain ⟨fp, I⟩ := ((A.same s1).same s2).ex
  refine ⟨a1, dx, fvs, a2, dy, fws, rfl, rfl, g1.2, g4.2, ?_⟩
  exact spF_of (es := .cons .cnon (.cons .cnon .nil)) I rfl rfl r2 ⟨_, _, _, _, _, _, rfl, rfl, rfl, ⟨e1', rfl⟩, _, _, _, _, _, _, rfl, rfl, rfl, ⟨e2', rfl⟩, rfl, rfl, rfl⟩ ⟨_, rfl, _, rfl, rfl⟩ fun p v H' r s e => k p v H' r ((s1.trans s2).trans s) e (fun z => nomatch z)
end
end Lh
/-! E13: the check of a piece of text against the little language, and that what is checked means what it says. -/
namespace Lh
open PySem PySem.Spec PyProof.Rows L2
/-- a def of the text -/
def nameOk (x : Str) : Bool := !(x == ("__debug__" : Str)) && !(x == ("__classdict__" : Str))
def visB (sc : Scope) (x : Str) : Bool := match sc.names.lookup x with
  | some .local => true
  | some .cell => true
  | some .free => true
  | _ => false
def glB (sc : Scope) (x : Str) : Bool := sc.names.lookup x == some .globalImplicit
def locB (sc : Scope) (x : Str) : Bool := match sc.names.lookup x with
  | some .local => true
  | some .cell => true
  | _ => false
def notSet : Expr → Bool
  | .Set .. => false
  | _ => true
def plainIx : Expr → Bool
  | .Slice .. => false
  | .Name .. => true
  | .Constant .. => true
  | .BinOp .. => true
  | .UnaryOp .. => true
  | .Call .. => true
  | .Subscript .. => true
  | .Attribute .. => true
  | _ => false
def notSup : Expr → Bool
  | .Call .. => false
  | _ => true
def mdEq : Md → Md → Bool
  | .va, .va => true
  | .bo, .bo => true
  | .io, .io => true
  | _, _ => false
def mdsEq : List Md → List Md → Bool
  | [], [] => true
  | a :: as, b :: bs => mdEq a b && mdsEq as bs
  | _, _ => false
theorem mdEq_ok : ∀ {a b : Md}, mdEq a b = true → a = b := by
  intro a b h
  cases a <;> cases b <;> first | rfl | cases h
theorem mdsEq_ok : ∀ {a b : List Md}, mdsEq a b = true → a = b
  | [], [], _ => rfl
  | [], _ :: _, h => by cases h
  | _ :: _, [], h => by cases h
  | a :: as, b :: bs, h => by
    simp only [mdsEq, Bool.and_eq_true] at h
    rw [mdEq_ok h.1, mdsEq_ok h.2]
def noIoB (ms : List Md) : Bool := ms.all fun m => match m with | .io => false | _ => true
def b1Name : B1 → String
  | .len => "len" | .list => "list" | .tuple => "tuple" | .int => "int" | .all => "all" | .any => "any" | .sum => "sum" | .abs => "abs" | .sorted => "sorted" | .min => "min" | .max => "max" | .lenset => "" | .sortedset => ""
def tyName : Ty → String
  | .int => "int" | .bool => "bool" | .list => "list" | .tuple => "tuple" | .str => "str" | .cls _ => ""
def muT : Mu → (String × String)
  | .append => ("append", "list.append") | .insert => ("insert", "list.insert") | .pop => ("pop", "list.pop") | .popat => ("pop", "list.pop") | .clear => ("clear", "list.clear") | .remove => ("remove", "list.remove")
def eqC : PV → PV → Bool
  | .int i, .int j => i == j
  | .bl i, .bl j => i == j
  | .non, .non => true
  | .str s, .str t => s == t
  | _, _ => false
theorem eqC_ok : ∀ {p q : PV}, eqC p q = true → p = q := by
  intro p q h
  cases p <;> cases q <;> first | rfl | cases h | skip
  all_goals rw [beq_iff_eq.mp (show (_ == _) = true from h)]
/-- which keyword-only parameter gets what -/
def selB (kn : List Str) : List Str → List PV → List (Nat ⊕ PV) → Bool
  | [], [], [] => true
  | s :: ss, d :: ds, .inl i :: r => kn[i]? == some s && selB kn ss ds r
  | s :: ss, d :: ds, .inr p :: r => !kn.contains s && eqC p d && selB kn ss ds r
  | _, _, _ => false
def knOf (ks : List Keyword) : List Str := ks.filterMap fun k => k.arg
section
variable (B : Tab) (N : List Str) (lv : Nat)
def varB (sc : Scope) (i : Nat) (x : Str) : Bool := N[i]? == some x && visB sc x && nameOk x
def fnB (j : Nat) (f : FnS → Bool) : Bool := match B.fn[j]? with
  | some fs => decide (fs.lv < lv) && f fs
  | none => false
/-- names of a comprehension's own -/
def ownOf (vs : List Nat) : List (Str × Nat) := vs.map fun i => (N.getD i "", i)
def asOf (scope : Scope) (vs : List Nat) : List Str := ((ownOf N vs).map (·.1)).filter fun x => match scope.names.lookup x with
  | some .local => true
  | some .cell => true
  | _ => false
mutual
def chkTg (as : List Str) : Tg → Expr → Bool
  | .nm i, .Name x _ => N[i]? == some x && as.contains x
  | .tp ts, .Tuple es _ _ => chkTgs as ts es
  | _, _ => false
def chkTgs (as : List Str) : List Tg → List Expr → Bool
  | [], [] => true
  | t :: ts, e :: es => (match e with | .Starred .. => false | _ => true) && chkTg as t e && chkTgs as ts es
  | _, _ => false
end
def oneArg : Expr → Option (Str × Expr)
  | .Call (.Name y _) [ea] [] _ => some (y, ea)
  | _ => none
def twoArg : Expr → Option (Str × Expr × Expr)
  | .Call (.Name y _) [ea, eb] [] _ => some (y, ea, eb)
  | _ => none
def isTup : Expr → Bool
  | .Tuple .. => true
  | _ => false
def chkTy (sc : Scope) (t : Ty) : Expr → Bool
  | .Name y _ => glB sc y && (match t with | .cls c => nameOk y && B.cl[c]? == some y | t => y == (tyName t : Str))
  | _ => false
mutual
def chkE (sc : Scope) : E → Expr → Bool
  | .var i, .Name x _ => varB N sc i x
  | .ofld i f, .Attribute (.Name x _) s _ => varB N sc i x && B.nm[f]? == some s
  | .cint i, .Constant (.int j) _ _ => i == j
  | .cbl i, .Constant (.bool j) _ _ => i == j
  | .cnon, .Constant .none _ _ => true
  | .cstr s, .Constant (.str z) _ _ => z == ⟨s.toArray⟩
  | .gl k (.str s), .Name x _ => glB sc x && nameOk x && (match B.gl[k]? with | some (y, .str s') => y == x && s == s' | _ => false)
  | .gl k (.int s), .Name x _ => glB sc x && nameOk x && (match B.gl[k]? with | some (y, .int s') => y == x && s == s' | _ => false)
  | .bin o a b, .BinOp ea op eb _ => op == bopOf o && chkE sc a ea && chkE sc b eb
  | .neg a, .UnaryOp .USub ea _ => chkE sc a ea
  | .cmp o a b, .Compare ea [op] [eb] _ => op == copOf o && notSet eb && chkE sc a ea && chkE sc b eb
  | .chain o o' a b c, .Compare ea [op, op'] [eb, ec] _ => op == copOf o && op' == copOf o' && notSet eb && notSet ec && chkE sc a ea && chkE sc b eb && chkE sc c ec
  | .and2 a b, .BoolOp .And (ea :: eb :: rest) pos => chkE sc a ea && chkE sc b (.BoolOp .And (eb :: rest) pos)
  | .and1 a, .BoolOp .And [ea] _ => chkE sc a ea
  | .or2 a b, .BoolOp .Or (ea :: eb :: rest) pos => chkE sc a ea && chkE sc b (.BoolOp .Or (eb :: rest) pos)
  | .or1 a, .BoolOp .Or [ea] _ => chkE sc a ea
  | .nott a, .UnaryOp .Not ea _ => chkE sc a ea
  | .ife t a b, .IfExp et ea eb _ => chkT sc t et && chkE sc a ea && chkE sc b eb
  | .tup es, .Tuple eas _ _ => decide (lenEs es ≤ 100) && chkEs sc es eas
  | .lst es, .List eas _ => decide (lenEs es ≤ 100) && chkEs sc es eas
  | .ix a b, .Subscript ea eb _ => plainIx eb && chkE sc a ea && chkE sc b eb
  | .sl a lo hi, .Subscript ea (.Slice elo ehi none _) _ => chkE sc a ea && chkO sc lo elo && chkO sc hi ehi
  | .fld a f, .Attribute ea s _ => B.nm[f]? == some s && notSup ea && chkE sc a ea
  | .call j ms as, .Call (.Name x _) eas [] _ => glB sc x && nameOk x && eas.all plainA && noIoB ms && noDup (keysOf as ms) && fnB B lv j (fun f => f.name == x && f.cls == none && mdsEq ms f.ms && f.kwn.isEmpty) && chkAs sc as ms eas
  | .callO j ms as, .Call (.Name x _) eas [] _ => glB sc x && nameOk x && (!eas.isEmpty && eas.all plainA) && noIoB ms && noDup (keysOf as ms) && fnB B lv j (fun f => f.name == x && f.cls == none && mdsEq ms f.ms && (f.kwn.isEmpty && f.own)) && chkAs sc as ms eas
  | .make c j ms as, .Call (.Name x _) eas [] _ => glB sc x && nameOk x && eas.all plainA && noIoB ms && noDup (keysOf as ms) && B.cl[c]? == some x && fnB B lv j (fun f => f.name == ("__init__" : Str) && f.cls == some c && mdsEq (.io :: ms) f.ms && f.kwn.isEmpty) && chkAs sc as ms eas
  | .meth c m j ms o as, .Call (.Attribute (.Name y yp) nm apos) eas [] pos => !(nm == ("__init__" : Str)) && (eas.all plainA && noIoB ms && noDup (keysOf (.cons o as) (.bo :: ms)) && !B.nm.contains nm && apos.endLine == pos.line && decide (eas.length < 25) &&
      fnB B lv j (fun f => f.name == nm && f.cls == some c && mdsEq (.bo :: ms) f.ms && f.kwn.isEmpty) && (match o with | .var i => varB N sc i y | _ => false) && chkAs sc as ms eas)
  | .bi1 .lenset a, .Call (.Name x _) [r] [] _ => x == ("len" : Str) && glB sc x && (match oneArg r with | some (y, ea) => y == ("set" : Str) && glB sc y && plainA ea && chkE sc a ea | none => false)
  | .bi1 f a, .Call (.Name x _) [ea] [] _ => x == (b1Name f : Str) && (match f with | .lenset => false | .sortedset => false | _ => true) && glB sc x && plainA ea && chkE sc a ea
  | .bi2 .min a b, .Call (.Name x _) [ea, eb] [] _ => x == ("min" : Str) && glB sc x && plainA ea && plainA eb && chkE sc a ea && chkE sc b eb
  | .bi2 .max a b, .Call (.Name x _) [ea, eb] [] _ => x == ("max" : Str) && glB sc x && plainA ea && plainA eb && chkE sc a ea && chkE sc b eb
  | .dun c j a b, .BinOp ea .Add eb _ => fnB B lv j (fun f => f.name == ("__add__" : Str) && f.cls == some c && mdsEq [.va, .va] f.ms && f.kwn.isEmpty) && chkE sc a ea && chkE sc b eb
  | .isi a t, .Call (.Name x _) [ea, et] [] _ => x == ("isinstance" : Str) && glB sc x && chkTy B sc t et && plainA ea && chkE sc a ea
  | .m1 .scount a b, .Call (.Attribute ea s apos) [eb] [] cpos => s == ("count" : Str) && apos.endLine == cpos.line && notSup ea && plainA eb && chkE sc a ea && chkE sc b eb
  | .m1 .lcount a b, .Call (.Attribute ea s apos) [eb] [] cpos => s == ("count" : Str) && apos.endLine == cpos.line && notSup ea && plainA eb && chkE sc a ea && chkE sc b eb
  | .m1 .lindex a b, .Call (.Attribute ea s apos) [eb] [] cpos => s == ("index" : Str) && apos.endLine == cpos.line && notSup ea && plainA eb && chkE sc a ea && chkE sc b eb
  | .m1 .sindex a b, .Call (.Attribute ea s apos) [eb] [] cpos => s == ("index" : Str) && apos.endLine == cpos.line && notSup ea && plainA eb && chkE sc a ea && chkE sc b eb
  | .m1 .join a b, .Call (.Attribute ea s apos) [eb] [] cpos => s == ("join" : Str) && apos.endLine == cpos.line && notSup ea && plainA eb && chkE sc a ea && chkE sc b eb
  | .rng1 a, .Call (.Name x _) [ea] [] _ => x == ("range" : Str) && glB sc x && plainA ea && chkE sc a ea
  | .lrng a, .Call (.Name x _) [r] [] _ => x == ("list" : Str) && glB sc x && (match oneArg r with | some (y, ea) => y == ("range" : Str) && glB sc y && plainA ea && chkE sc a ea | none => false)
  | .lrng2 a b, .Call (.Name x _) [r] [] _ => x == ("list" : Str) && glB sc x && (match twoArg r with | some (y, ea, eb) => y == ("range" : Str) && glB sc y && plainA ea && plainA eb && chkE sc a ea && chkE sc b eb | none => false)
  | .comp it tg c e vs, .ListComp elt [⟨etg, iter, ifs, asy⟩] scope _ => asy == 0 && blkC N sc scope (ownOf N vs) && notSet iter && (slotsT tg).all vs.contains && chkTg N (asOf N scope vs) tg etg && chkI sc it iter etg && chkTO (relS scope sc) c ifs && chkE (relS scope sc) e elt
  | .comp2 it tg c it1 tg1 c1 e vs vs1, .ListComp elt [⟨etg, iter, ifs, asy⟩, ⟨etg1, iter1, ifs1, asy1⟩] scope _ => asy == 0 && asy1 == 0 && blkC N sc scope (ownOf N vs) && notSet iter && notSet iter1 && (slotsT tg).all vs.contains && (slotsT tg1).all vs1.contains && vs1.all vs.contains &&
      chkTg N (asOf N scope vs) tg etg && chkTg N (asOf N scope vs) tg1 etg1 && chkI sc it iter etg && chkTO (relS scope sc) c ifs && chkI (relS scope sc) it1 iter1 etg1 && chkTO (relS scope sc) c1 ifs1 && chkE (relS scope sc) e elt
  | .callk j ms as ks sel, .Call (.Name x _) eas kws _ => glB sc x && nameOk x && !eas.isEmpty && eas.all plainA && noIoB ms && noDup (keysOf as ms) && fnB B lv j (fun f => f.name == x && f.cls == none && mdsEq (ms ++ List.replicate sel.length .va) f.ms && f.ps.length == ms.length + sel.length && selB (knOf kws) f.kwn f.dfl sel && f.kns.contains (knOf kws)) && chkAs sc as ms eas && chkKs sc ks kws
  | .makek c j ms as ks sel, .Call (.Name x _) eas kws _ => glB sc x && nameOk x && !eas.isEmpty && eas.all plainA && noIoB ms && noDup (keysOf as ms) && B.cl[c]? == some x && fnB B lv j (fun f => f.name == ("__init__" : Str) && f.cls == some c && mdsEq (.io :: (ms ++ List.replicate sel.length .va)) f.ms && f.ps.length == ms.length + 1 + sel.length && selB (knOf kws) f.kwn f.dfl sel && f.kns.contains (knOf kws)) && chkAs sc as ms eas && chkKs sc ks kws
  | _, _ => false
def chkO (sc : Scope) : EO → Option Expr → Bool
  | .none, none => true
  | .some e, some a => chkE sc e a
  | _, _ => false
def chkEs (sc : Scope) : Es → List Expr → Bool
  | .nil, [] => true
  | .cons e es, a :: as => plainA a && chkE sc e a && chkEs sc es as
  | _, _ => false
def chkAs (sc : Scope) : Es → List Md → List Expr → Bool
  | .nil, [], [] => true
  | .cons e es, m :: ms, a :: as => plainA a && chkE sc e a && chkAs sc es ms as
  | _, _, _ => false
def chkKs (sc : Scope) : Es → List Keyword → Bool
  | .nil, [] => true
  | .cons e es, ⟨some _, a, _⟩ :: ks => chkE sc e a && chkKs sc es ks
  | _, _ => false
def chkT (sc : Scope) : T → Expr → Bool
  | .not t, .UnaryOp .Not e _ => chkT sc t e
  | .and2 a b, .BoolOp .And (ea :: eb :: rest) pos => chkT sc a ea && chkT sc b (.BoolOp .And (eb :: rest) pos)
  | .and1 a, .BoolOp .And [ea] _ => chkT sc a ea
  | .or2 a b, .BoolOp .Or (ea :: eb :: rest) pos => chkT sc a ea && chkT sc b (.BoolOp .Or (eb :: rest) pos)
  | .or1 a, .BoolOp .Or [ea] _ => chkT sc a ea
  | .v e, a => (match a with | .BoolOp .. => false | .UnaryOp .Not .. => false | .IfExp .. => false | _ => true) && chkE sc e a
  | _, _ => false
def chkTO (sc : Scope) : TO → List Expr → Bool
  | .none, [] => true
  | .some t, [e] => chkT sc t e
  | _, _ => false
def chkI (sc : Scope) : It → Expr → Expr → Bool
  | .val e, a, _ => (match a with | .Set .. => false | _ => true) && chkE sc e a
  | .rng1 a, .Call (.Name x _) [ea] [] _, _ => x == ("range" : Str) && glB sc x && plainA ea && chkE sc a ea
  | .rng2 a b, .Call (.Name x _) [ea, eb] [] _, _ => x == ("range" : Str) && glB sc x && plainA ea && plainA eb && chkE sc a ea && chkE sc b eb
  | .zip a b, .Call (.Name x _) [ea, eb] [] _, tg => isTup tg && x == ("zip" : Str) && glB sc x && plainA ea && plainA eb && chkE sc a ea && chkE sc b eb
  | .enum a, .Call (.Name x _) [ea] [] _, tg => isTup tg && x == ("enumerate" : Str) && glB sc x && plainA ea && chkE sc a ea
  | .rev a, .Call (.Name x _) [ea] [] _, _ => x == ("reversed" : Str) && glB sc x && plainA ea && chkE sc a ea
  | _, _, _ => false
end
/-! statements -/
def notLc : Expr → Bool
  | .ListComp .. => false
  | .SetComp .. => false
  | .DictComp .. => false
  | _ => true
def notTup : Expr → Bool
  | .Tuple .. => false
  | _ => true
def isFun (sc : Scope) : Bool := match sc.kind with
  | .function => true
  | _ => false
def loc1 (sc : Scope) (x : Str) : Bool := match sc.names.lookup x with
  | some .local => true
  | _ => false
def setB (as : List Str) (i : Nat) (x : Str) : Bool := N[i]? == some x && as.contains x
def chkL (sc : Scope) : LV → Expr → Bool
  | .nm i, .Name x _ => varB N sc i x
  | .fd i f, .Attribute (.Name x _) s _ => varB N sc i x && B.nm[f]? == some s
  | _, _ => false
def chkAsW (sc : Scope) : Es → List Md → List Expr → Bool
  | .nil, [], [] => true
  | .cons (.var i) es, .io :: ms, .Name x _ :: as => varB N sc i x && chkAsW sc es ms as
  | .cons _ _, .io :: _, _ :: _ => false
  | .cons e es, _ :: ms, a :: as => plainA a && chkE B N lv sc e a && chkAsW sc es ms as
  | _, _, _ => false
/-- a comprehension on the line of its target -/
def lcSame (sc : Scope) (x : Str) (px : Pos) : Expr → Bool
  | .ListComp _ _ scope p => isFun sc && loc1 sc x && px.line == p.line && !(scope.names.any fun q => q.1 == x && (q.2 == .local || q.2 == .cell))
  | _ => false
/-- .. that is stored the plain way -/
def lcDiff (sc : Scope) (x : Str) (px : Pos) : Expr → Bool
  | .ListComp _ _ scope p => isFun sc && !(loc1 sc x && px.line == p.line && !(scope.names.any fun q => q.1 == x && (q.2 == .local || q.2 == .cell)))
  | _ => false
/-- a pair of names of which one is a cell -/
def cellTup (sc : Scope) : List Expr → Expr → Bool
  | [.Name x _, .Name y _], .Tuple [_, _] _ _ => !(loc1 sc x) || !(loc1 sc y)
  | _, _ => false
def parB (sc : Scope) (x y : Str) (px py : Pos) (ea eb : Expr) : Bool := isFun sc && loc1 sc x && loc1 sc y && px.line == py.line && !(x == y) && plainA ea && plainA eb && !([ea, eb].all (foldedForSure 8)) && !([ea, eb].all (constantsAlone 8))
def parOf : List Expr → Expr → Option ((Str × Pos) × (Str × Pos) × Expr × Expr)
  | [.Tuple [.Name x px, .Name y py] _ _], .Tuple [ea, eb] _ _ => some ((x, px), (y, py), ea, eb)
  | _, _ => none
mutual
def chkS (sc : Scope) (as : List Str) : S → Stmt → Bool
  | .pass, .Pass _ => true
  | .ex e, .Expr ea _ => notLc ea && chkE B N lv sc e ea
  | .asg i (.comp it tg c e vs), .Assign [.Name x px] ea pos => setB N as i x && chkE B N lv sc (.comp it tg c e vs) ea && (lcSame sc x px ea || lcDiff sc x px ea)
  | .asg i (.comp2 it tg c it1 tg1 c1 e vs vs1), .Assign [.Name x px] ea pos => setB N as i x && chkE B N lv sc (.comp2 it tg c it1 tg1 c1 e vs vs1) ea && (lcSame sc x px ea || lcDiff sc x px ea)
  | .asg i e, .Assign [.Name x px] ea pos => setB N as i x && notLc ea && chkE B N lv sc e ea
  | .tgt t e, .Assign [.Tuple es k p] ea _ => chkTg N as t (.Tuple es k p) && (notTup ea || cellTup sc es ea) && chkE B N lv sc e ea
  | .par i j a b, .Assign tgs v _ => (match parOf tgs v with | some ((x, px), (y, py), ea, eb) => setB N as i x && setB N as j y && !(i == j) && parB sc x y px py ea eb && chkE B N lv sc a ea && chkE B N lv sc b eb | none => false)
  | .setix l k e, .Assign [.Subscript el ek _] ea _ => chkL B N sc l el && plainIx ek && chkE B N lv sc k ek && chkE B N lv sc e ea
  | .setix2 l k l' k' e, .Assign [.Subscript el ek _, .Subscript el' ek' _] ea _ => chkL B N sc l el && plainIx ek && chkE B N lv sc k ek && chkL B N sc l' el' && plainIx ek' && chkE B N lv sc k' ek' && chkE B N lv sc e ea
  | .augv i o e, .AugAssign (.Name x _) op ea _ => setB N as i x && op == bopOf o && chkE B N lv sc e ea
  | .augix l k o e, .AugAssign (.Subscript el ek _) op ea _ => chkL B N sc l el && plainIx ek && op == bopOf o && chkE B N lv sc k ek && chkE B N lv sc e ea
  | .setfd i c f e, .Assign [.Attribute (.Name x _) s _] ea _ => varB N sc i x && B.nm[f]? == some s && B.na.contains (c, f) && chkE B N lv sc e ea
  | .mu m l es, .Expr (.Call (.Attribute el nm apos) eas [] cpos) _ => nm == ((muT m).1 : Str) && notSup el && apos.endLine == cpos.line && decide (eas.length < 25) && chkL B N sc l el && chkEs B N lv sc es eas
  | .call none j ms es, .Expr (.Call (.Name x _) eas [] _) _ => !eas.isEmpty && glB sc x && nameOk x && eas.all plainA && noDup (keysOf es ms) && fnB B lv j (fun f => f.name == x && f.cls == none && mdsEq ms f.ms && f.kwn.isEmpty) && chkAsW B N lv sc es ms eas
  | .call (some i) j ms es, .Assign [.Name y _] (.Call (.Name x _) eas [] _) _ => setB N as i y && (!eas.isEmpty && glB sc x && nameOk x && eas.all plainA && noDup (keysOf es ms) && fnB B lv j (fun f => f.name == x && f.cls == none && mdsEq ms f.ms && f.kwn.isEmpty) && chkAsW B N lv sc es ms eas)
  | .iff t a b, .If et sa sb _ => chkT B N lv sc t et && chkSs sc as a sa && chkSs sc as b sb
  | .for_ t it b, .For tg iter body [] _ => chkTg N as t tg && notSet iter && chkI B N lv sc it iter tg && chkSs sc as b body
  | .whil t b, .While et body [] _ => chkT B N lv sc t et && chkSs sc as b body
  | .ret e, .Return (some ea) _ => chkE B N lv sc e ea
  | .retF e, .Return (some ea) _ => chkE B N lv sc e ea
  | .retO i, .Return (some (.Name x _)) _ => varB N sc i x
  | .retN, .Return none _ => true
  | .brk, .Break _ => true
  | .cont, .Continue _ => true
  | .raise, .Raise .. => true
  | _, _ => false
def chkSs (sc : Scope) (as : List Str) : Ss → List Stmt → Bool
  | .nil, [] => true
  | .cons (.frz _) r, sts => chkSs sc as r sts
  | .cons s r, st :: sts => chkS sc as s st && chkSs sc as r sts
  | _, _ => false
end
end
end Lh
/-! E14: what is checked means what it says: expressions. -/
namespace Lh
open PySem PySem.Spec PyProof.Rows L2
structure CallOk (B : Tab) (C : Cn) (sp : SpT) (lv : Nat) (X : Cx) : Prop where
  plain : ∀ j f, B.fn[j]? = some f → f.lv < lv → f.cls = none → ∃ k a fd, FnOk X.prog X.w X.K X.mg X.base CX0 k a fd f.ps (spF C sp j f.ms) ∧ Room k X.A ∧ X.mg f.name = some (.ref a) ∧ PySem.W.keepIn X.K (.ref a) = true ∧ (f.kwn = [] → Binds X.K fd f.ps []) ∧
    ∀ kn sel, selB kn f.kwn f.dfl sel = true → f.kns.contains kn = true → KwB X fd f.ps (f.ps.length - sel.length) kn sel
  meth : ∀ j f c, B.fn[j]? = some f → f.lv < lv → f.cls = some c → f.name ≠ ("__init__" : Str) → ∃ k a fd, FnOk X.prog X.w X.K X.mg X.base CX0 k a fd f.ps (spF C sp j f.ms) ∧ Room k X.A ∧ Meth X.K (C.ga c) f.name a ∧ C.Cl c ∧ (f.kwn = [] → Binds X.K fd f.ps [])
  init : ∀ j f c, B.fn[j]? = some f → f.lv < lv → f.cls = some c → f.name = ("__init__" : Str) → ∃ k a fd, FnOk X.prog X.w X.K X.mg X.base CX0 k a fd f.ps (spF C sp j f.ms) ∧ Room (k + 1) X.A ∧ Mk X.K (C.ga c) a ∧ C.Cl c ∧ (f.kwn = [] → Binds X.K fd f.ps []) ∧
    ∀ kn sel, selB kn f.kwn f.dfl sel = true → f.kns.contains kn = true → KwB X fd f.ps (f.ps.length - sel.length) kn sel
structure GX (B : Tab) (C : Cn) (sp : SpT) (N : List Str) (lv : Nat) (sc : Scope) (as : List Str) (X : Cx) : Prop where
  eK : X.K = C.K
  eN : X.N = N
  nd : N.Nodup
  eS : X.env.scope = sc
  calm : X.calm = true
  hu : X.A.units + 65 < cLine
  asg : ∀ x, x ∈ as → L2.Loc sc x ∧ (X.fn x = true ∨ sc.names.lookup x = some .local)
  blt : ∀ x, x ∈ bltNames → X.mg x = none
  glo : ∀ (k : Nat) x p, B.gl[k]? = some (x, p) → ∃ u v, X.mg x = some u ∧ RelV v u ∧ cV p = some v
  nm : ∀ f, C.nm f = B.nm[f]?
  nmd : B.nm.Nodup
  isi : IsiF C
  cls : ∀ (c : Nat) x, B.cl[c]? = some x → c ∈ C.cs ∧ X.mg x = some (.ref (C.ga c))
  na : ∀ c f s, (c, f) ∈ B.na → C.nm f = some s → NoAttr C.K (C.ga c) s
  calls : CallOk B C sp lv X
  own : ∀ j f, B.fn[j]? = some f → C.ow j = f.own
theorem GX.inj {B : Tab} {C : Cn} {sp : SpT} {N : List Str} {lv : Nat} {sc : Scope} {as : List Str} {X : Cx} (G : GX B C sp N lv sc as X) : ∀ i j z, C.nm i = some z → C.nm j = some z → i = j := fun i j z h1 h2 => by
  rw [G.nm] at h1 h2
  exact nodup_ix G.nmd h1 h2
theorem and3 {a b : Bool} (h : (a && b) = true) : a = true ∧ b = true := Bool.and_eq_true_iff.mp h
section
variable {B : Tab} {C : Cn} {sp : SpT} {N : List Str} {lv : Nat} {sc : Scope} {as : List Str} {X : Cx}
theorem GX.var (G : GX B C sp N lv sc as X) {i : Nat} {x : Str} {pos : Pos} (h : varB N sc i x = true) : PE X (.Name x pos) (tVar i) := by
  simp only [varB, Bool.and_eq_true] at h
  obtain ⟨⟨h1, h2⟩, h3⟩ := h
  simp only [nameOk, Bool.and_eq_true, Bool.not_eq_true'] at h3
  refine pe_var (by rw [G.eN]; exact beq_iff_eq.mp h1) ?_ h3.1 h3.2
  rw [G.eS]
  unfold visB at h2
  split at h2
  · exact .inl (by assumption)
  · exact .inr (.inl (by assumption))
  · exact .inr (.inr (by assumption))
  · cases h2
theorem GX.gl (G : GX B C sp N lv sc as X) {x : Str} (h : glB sc x = true) : Gl X x := by
  show X.env.scope.names.lookup x = some .globalImplicit
  rw [G.eS]
  exact beq_iff_eq.mp h
theorem nameOk_db {x : Str} (h : nameOk x = true) : (x == ("__debug__" : Str)) = false := by
  simp only [nameOk, Bool.and_eq_true, Bool.not_eq_true'] at h
  exact h.1
theorem fnB_ok {j : Nat} {f : FnS → Bool} (h : fnB B lv j f = true) : ∃ fs, B.fn[j]? = some fs ∧ fs.lv < lv ∧ f fs = true := by
  unfold fnB at h
  split at h
  · rename_i fs e
    simp only [Bool.and_eq_true, decide_eq_true_eq] at h
    exact ⟨fs, e, h.1, h.2⟩
  · cases h
theorem marks_of {op : CmpOp} {e : Expr} (h : notSet e = true) : behindInMarks op e = false := by
  cases e <;> first | rfl | cases h
theorem last_of {op op' : CmpOp} {e e' : Expr} (h : notSet e = true) (h' : notSet e' = true) : lastMarks [op, op'] [e, e'] = false := by
  cases e' <;> first | rfl | cases h'
theorem plain_of {e : Expr} (h : plainIx e = true) : PlainIx e := by
  cases e <;> first | exact fun _ _ => rfl | cases h
theorem sup_of {e : Expr} {s : Str} {env : PySem.Env} (h : notSup e = true) : attributeBase e s env (eval e env) = eval e env := by
  cases e <;> first | rfl | cases h
theorem fold_of {e : Expr} (h : notSet e = true) (env : PySem.Env) (x : Value) : foldedSetIterable e env x = pure x := by
  cases e <;> first | rfl | cases h
theorem isT_of {e : Expr} {env : PySem.Env} (h : (match e with | .BoolOp .. => false | .UnaryOp .Not .. => false | .IfExp .. => false | .Compare .. => false | _ => true) = true) : ∀ whole, isTrue e env whole = (do let v ← whole; standAt e.pos; holding [v] (truthy v)) := by
  intro whole
  cases e <;> first | rfl | cases h | skip
  rename_i op _ _
  cases op <;> first | rfl | cases h
theorem plainAll : ∀ {es : Es} {eas : List Expr}, chkEs B N lv sc es eas = true → eas.all plainA = true
  | .nil, [], _ => rfl
  | .nil, _ :: _, h => by cases h
  | .cons _ _, [], h => by cases h
  | .cons e es, a :: as, h => by
    simp only [chkEs, Bool.and_eq_true] at h
    rw [List.all_cons, h.1.1, plainAll h.2]; rfl
theorem own_map (vs : List Nat) : (ownOf N vs).map (·.2) = vs := by
  unfold ownOf
  rw [List.map_map]
  conv => rhs; rw [← List.map_id vs]
  rfl
/-- the block's own context -/
theorem GX.blk (G : GX B C sp N lv sc as X) (s : Shared) (H : Hp) (scope : Scope) (C' : Addr) (cl : List (Str × Addr)) (fp : List Addr) (vs : List Nat) : GX B C sp N lv (relS scope sc) (asOf N scope vs) (X.blk s H scope (compEnvC scope cl C' X.env) fp) where
  eK := G.eK
  eN := G.eN
  nd := G.nd
  eS := by
    show relabel scope X.env = relS scope sc
    rw [← G.eS]; rfl
  calm := G.calm
  hu := G.hu
  asg := fun x hx => by
    unfold asOf at hx
    have h := (List.mem_filter.mp hx).2
    split at h
    · rename_i e
      have := lookup_relS_keep (sc := sc) (k := .local) (by decide) e
      exact ⟨.inl this, .inr this⟩
    · rename_i e
      have := lookup_relS_keep (sc := sc) (k := .cell) (by decide) e
      refine ⟨.inr this, .inl ?_⟩
      show (scope.names.lookup x == some .cell) = true
      rw [e]; rfl
    · cases h
  blt := G.blt
  glo := G.glo
  nm := G.nm
  nmd := G.nmd
  isi := G.isi
  cls := G.cls
  na := G.na
  calls := ⟨G.calls.plain, G.calls.meth, G.calls.init⟩
  own := G.own
end
end Lh
/-! ES: the set of a text whose signs are unlike, the length of a set -/
namespace Lh
open PySem PySem.Spec PyProof.Rows L2
section
variable {prog : Program} {w : World} {A : Around} {R : Result → Shared → Prop} {I : Addr} {fp wr : List Addr} {G : Array GenState → Array GenState → Prop} {n : Nat} {P : Nat → Value → Prop} {St : Nat → Shared → Prop}
/-- among the first i -/
def amg (xs : List Str) (i : Nat) (y : Str) : Bool := (xs.take i).any fun z => z == y
theorem amg_step {xs : List Str} (nd : xs.Nodup) {i : Nat} (h : i < xs.length) : amg xs i (xs.getD i Str.empty) = false ∧ ∀ y, (amg xs i y || decide (y = xs.getD i Str.empty)) = amg xs (i + 1) y := by
  have e : xs.getD i Str.empty = xs[i] := by rw [List.getD_eq_getElem?_getD, List.getElem?_eq_getElem h]; rfl
  have t : xs.take (i + 1) = xs.take i ++ [xs[i]] := by rw [List.take_add_one, List.getElem?_eq_getElem h]; rfl
  constructor
  · rw [e, amg, List.any_eq_false]
    intro z hz
    obtain ⟨j, hj⟩ := List.getElem?_of_mem hz
    rw [List.getElem?_take] at hj
    split at hj
    · rename_i hji
      intro he
      have hz' : z = xs[i] := by simpa using he
      have h2 : xs[i]? = some xs[i] := List.getElem?_eq_getElem h
      rw [hz'] at hj
      have := (List.getElem?_inj (by omega) nd).mp (hj.trans h2.symm)
      omega
    · cases hj
  · intro y
    rw [e, amg, amg, t, List.any_append]
    congr 1
    by_cases c : y = xs[i]
    · rw [c]; simp
    · have : (xs[i] == y) = false := by simpa using fun h' => c h'.symm
      simp [c, this]
theorem upd_loop {T : Addr} {s : Shared} (h : wpAny (model prog w) A.in1 (Builtin.«set.update.loop» ⟨[.ref T, .ref I], []⟩) (fun fin s' => match fin with
      | .done f => R (.ok f) s'
      | .again c => c.quiet = true ∧ codeAny (model prog w) A c R s') (fun e s' => R (.error e) s') s) : codeAny (model prog w) A (.builtin "set.update.loop" ⟨[.ref T, .ref I], []⟩) R s := by
  refine codeAny_builtin F.entry_set_update_loop (cast (congrArg (fun B => wpAny (model prog w) B _ _ _ s) (Around.under_plainId F.plain_set_update_loop _).symm) h)
theorem loop_new (W : WalksS prog w A.in1 I fp wr G n P St) (T : Addr) (hTf : T ∉ fp) (xs : List Str) (hlen : xs.length = n) (nd : xs.Nodup) (hb : n + 1 < scanBound) (hv : ∀ i v, P i v → ∃ t, v = .str (xs.getD i Str.empty) t) (m : Nat) :
    ∀ (i : Nat) (s : Shared), n - i = m → i ≤ n → St i s → s.heap.SetOf (PySem.strKind prog w) T (amg xs i) i →
      (∀ s', Moved (T :: wr) G s s' → s'.heap.SetOf (PySem.strKind prog w) T (amg xs n) n → R (.ok (.ret .none)) s') →
      codeAny (model prog w) A (.builtin "set.update.loop" ⟨[.ref T, .ref I], []⟩) R s := by
  have hTw : T ∉ wr := fun h => hTf (W.sub _ h)
  have wide : ∀ b ∈ wr, b ∈ T :: wr := fun b hb => List.mem_cons.mpr (.inr hb)
  induction m with
  | zero =>
    intro i s hk hi st hS fin
    obtain rfl : i = n := by omega
    refine upd_loop ?_
    refine wpAny_bind (W.done s _ _ st fun s1 mv => ?_)
    obtain ⟨o, es, ep, tb, g, rest⟩ := hS
    exact wpAny_pure (fin s1 (mv.mono wide) ⟨o, es, ep, tb, mv.heap T _ hTw g, rest⟩)
  | succ m ih =>
    intro i s hk hi st hS fin
    have lt : i < n := by omega
    refine upd_loop ?_
    refine wpAny_bind (W.item i s _ _ lt st fun v s1 hp st1 mv => ?_)
    obtain ⟨u, rfl⟩ := hv i v hp
    have hS1 : s1.heap.SetOf (PySem.strKind prog w) T (amg xs i) i := by
      obtain ⟨o, es, ep, tb, g, rest⟩ := hS
      exact ⟨o, es, ep, tb, mv.heap T _ hTw g, rest⟩
    obtain ⟨q1, q2⟩ := amg_step nd (by omega : i < xs.length)
    generalize xs.getD i Str.empty = y at q1 q2 ⊢
    show wpAny _ A.in1 (holding [Value.str y u] (setAdd T (.str y u)) >>= _) _ _ s1
    refine wpAny_bind (wpAny_holding ?_)
    unfold setAdd
    refine wpAny_holding ?_
    refine wpAny_bind ((PySem.strKind prog w).pyHash (k := y) (strKind_is _ _ _ _) ?_)
    refine wpAny_setAddHashed_of (knd := PySem.strKind prog w) (s := { s1 with toks := s1.toks + 1 }) (strKind_is _ _ _ _) rfl hS1 (by omega) fun h2 sb hS2 => ?_
    rw [q1] at hS2
    have hS3 : h2.SetOf (PySem.strKind prog w) T (amg xs (i + 1)) (i + 1) := SetOf_congr hS2 q2 rfl
    refine wpAny_pure ⟨plainId_quiet F.plain_set_update_loop _, ih (i + 1) _ (by omega) lt (W.frame _ s1 _ _ st1 (Nat.le_succ _) fun b hb o e => ?_) hS3 fun s2 mv2 hS4 => ?_⟩
    · rw [sb.2 b fun h => hTf (h ▸ hb)]; exact e
    · refine fin s2 (Moved.trans W.gtrans ((mv.mono wide).then_heap (Nat.le_succ _) fun b o hb e => ?_) mv2) hS4
      rw [sb.2 b fun h => hb (h ▸ List.mem_cons_self)]; exact e
end
/-- a text's signs as texts -/
def signs (x : Str) : List Str := x.cps.toList.map fun c => ⟨#[c]⟩
theorem signs_nd {x : Str} (h : x.cps.toList.Nodup) : (signs x).Nodup := by
  rw [signs, List.nodup_iff_pairwise_ne, List.pairwise_map]
  refine (List.nodup_iff_pairwise_ne.mp h).imp fun {a b} ne e => ne ?_
  have e2 : [a] = [b] := congrArg (fun y : Str => y.cps.toList) e
  exact (List.cons.inj e2).1
section
variable {prog : Program} {w : World} {A : Around} {E : Value → Shared → Prop} {s : Shared}
set_option maxHeartbeats 3200000 in
theorem call_set_text {x : Str} {t : Tok} {Q : Value → Shared → Prop} (hh : A.handled = none) (hb : x.cps.size + 1 < scanBound) (nd : x.cps.toList.Nodup)
    (fin : ∀ (h1 : Heap) (tk : Nat), h1.SetOf (PySem.strKind prog w) s.heap.objs.size (amg (signs x) x.cps.size) x.cps.size → (∀ b o, b < s.heap.objs.size → s.heap.get? b = some o → h1.get? b = some o) → Q (.ref s.heap.objs.size) { s with heap := h1, toks := tk }) :
    wpAny (model prog w) A (call (.type "set") [.str x t]) Q E s := by
  obtain ⟨cc, tt, hmro⟩ := PySem.F.called_set.mro
  have mades := PySem.F.called_set.made
  have subs := PySem.F.called_set.sub
  refine wpAny_call (codeAny_of_tree (show wpAny _ _ (callAny (.type "set") _) _ _ _ from wpAny_pure ⟨Code.quiet_builtin _ (by decide +kernel), codeAny_builtin PySem.F.entry_type_call ?_⟩))
  rw [Around.under_plain (weight_type_call_type "set" [.str x t] []) rfl]
  have g1 := PySem.F.called_set.notType
  have g2 := PySem.F.called_set.canCreate
  have g3 := PySem.F.typeCall_set_1 (.str x t)
  repeat (any_goals first | wp_step | assumption)
  refine codeAny_mono (code_set_new_1 (.str x t) (E := E) (Q₁ := fun obj s1 => ∃ b : Bool, obj = .ref s.heap.objs.size ∧ s1 = { s with heap := s.heap.push { cls := .type "set", dict := none, data := .set #[] 0 (.fresh 0 0 b) } }) fun b => ⟨b, rfl, rfl⟩) fun r s1 hr => ?_
  cases r with
  | error e => exact hr
  | ok fl =>
    cases fl with
    | ret obj =>
      obtain ⟨led, rfl, rfl⟩ := hr
      have here : (s.heap.push { cls := .type "set", dict := none, data := .set #[] 0 (.fresh 0 0 led) }).get? s.heap.objs.size = some { cls := .type "set", dict := none, data := .set #[] 0 (.fresh 0 0 led) } := Heap.get?_push_size _ rfl
      have isSet : Shared.TypeIs { s with heap := s.heap.push { cls := .type "set", dict := none, data := .set #[] 0 (.fresh 0 0 led) } } (.ref s.heap.objs.size) "set" := ⟨_, here, rfl⟩
      have lo := PySem.F.called_set.init.lookup
      have bi := PySem.F.called_set.init.bind (.ref s.heap.objs.size)
      repeat (any_goals first | wp_step | assumption)
      refine codeAny_mono (codeAny_call_builtin (R := wants (fun r s2 => r = .none ∧ ∃ h1 tk, s2 = { s with heap := h1, toks := tk } ∧
          h1.SetOf (PySem.strKind prog w) s.heap.objs.size (amg (signs x) x.cps.size) x.cps.size ∧
          (∀ b o, b < s.heap.objs.size → s.heap.get? b = some o → h1.get? b = some o)) E) PySem.F.called_set.init.plain PySem.F.entry_set_init (check_set_init_1 isSet ?_)) fun r2 s2 hr2 => ?_
      · have n1 := PySem.F.sub_str_set
        have n2 := PySem.F.sub_str_frozenset
        unfold Builtin.«set.__init__» Builtin.Frozenset.updateFrom noKeywords
        generalize it0 : pyIter = PI
        wp_walk
        subst it0
        refine wpAny_pyIter_str fun o St hW st0 => ?_
        refine wpAny_bind (wpAny_runValue ?_)
        have quiet : A.in1.in1.in1.handled = none := by simp [hh]
        have far : s.heap.objs.size ∉ [(s.heap.push { cls := .type "set", dict := none, data := .set #[] 0 (.fresh 0 0 led) }).objs.size] := by
          rw [Heap.size_push]
          simp
        have len : (signs x).length = x.cps.size := by simp [signs]
        have hv : ∀ (i : Nat) (v : Value), SignAt x i v → ∃ t, v = .str ((signs x).getD i Str.empty) t := by
          rintro i v ⟨c, u, q, rfl⟩
          refine ⟨u, ?_⟩
          have : (signs x)[i]? = some ⟨#[c]⟩ := by
            rw [signs, List.getElem?_map, Array.getElem?_toList, q]; rfl
          rw [List.getD_eq_getElem?_getD, this]; rfl
        refine loop_new ((hW _ quiet).toS) s.heap.objs.size far (signs x) len (signs_nd nd) hb hv (x.cps.size - 0) 0 _ (by omega) (Nat.zero_le _) st0 ?_ ?_
        · have got : ((s.heap.push { cls := .type "set", dict := none, data := .set #[] 0 (.fresh 0 0 led) }).push o).get? s.heap.objs.size = some { cls := .type "set", dict := none, data := .set #[] 0 (.fresh 0 0 led) } := Heap.get?_push_of_some _ here
          exact SetOf_congr ((setObjOf_fresh (knd := PySem.strKind prog w) led).setOf got (by unfold scanBound; omega)) (fun _ => rfl) rfl
        · intro s3 mv hS3
          obtain ⟨h3, gg, dd, tk, oo⟩ := s3
          obtain rfl : gg = s.gens := mv.gens
          obtain rfl : dd = s.drawn := mv.drawn
          obtain rfl : oo = s.os := mv.os
          show wpAny _ _ _ _ _ _
          refine wpAny_pure ?_
          show wpAny _ _ (ret Value.none) _ _ _
          refine wpAny_pure ⟨rfl, h3, tk, rfl, hS3, fun b p hbs e => ?_⟩
          have d1 : b ≠ s.heap.objs.size := Nat.ne_of_lt hbs
          have d2 : b ≠ (s.heap.push { cls := .type "set", dict := none, data := .set #[] 0 (.fresh 0 0 led) }).objs.size := by
            rw [Heap.size_push]; exact Nat.ne_of_lt (Nat.lt_succ_of_lt hbs)
          refine mv.heap b p ?_ (Heap.get?_push_of_some _ (Heap.get?_push_of_some _ e))
          simp only [List.mem_cons, List.not_mem_nil, or_false, not_or]
          exact ⟨d1, d2⟩
      · cases r2 with
        | error e => exact hr2
        | ok f2 =>
          cases f2 with
          | ret r =>
            obtain ⟨rfl, h3, tk, rfl, hS3, keep⟩ := hr2
            repeat (any_goals first | wp_step | assumption)
            exact fin _ _ hS3 keep
          | _ => exact hr2.elim
    | _ => exact hr.elim
end
end Lh
/-! ES2: len(set(..)) -/
namespace Lh
open PySem PySem.Spec PyProof.Rows L2
theorem met_nd (f : Nat → Int) : ∀ i, (firstMet f i).Nodup
  | 0 => by rw [firstMet_zero]; exact List.nodup_nil
  | i + 1 => by
    rw [firstMet_succ]
    unfold step_dedup
    split
    · exact met_nd f i
    · rename_i h
      rw [List.nodup_append]
      refine ⟨met_nd f i, by simp, ?_⟩
      intro a ha b hb e
      rw [List.mem_singleton.mp hb] at e
      subst e
      exact h (List.any_eq_true.mpr ⟨_, ha, by simp⟩)
theorem met_mem (ns : List Int) (z : Int) : z ∈ firstMet (fun i => ns.getD i 0) ns.length ↔ z ∈ ns := by
  have e : (List.range ns.length).map (fun i => ns.getD i 0) = ns := by
    refine List.ext_getElem (by simp) fun i h1 h2 => ?_
    rw [List.getElem_map, List.getElem_range, List.getD_eq_getElem?_getD, List.getElem?_eq_getElem h2]; rfl
  have h := firstMet_any (fun i => ns.getD i 0) ns.length z
  rw [e] at h
  have g : ∀ l : List Int, l.any (· == z) = true ↔ z ∈ l := by
    intro l
    simp [List.any_eq_true]
  rw [← g, h, g]
def tLS (K : PySem.W.Frag) (ta : TE) : TE := fun σ H Q => ta σ H fun x H1 => (∃ (l : Addr) (ns : List Int), x = .ref l ∧ SqL K H1 l (ns.map V.int) ∧ ns.length < 1000 ∧ ∀ k : Nat, (∃ ms : List Int, ms.Nodup ∧ (∀ z, z ∈ ms ↔ z ∈ ns) ∧ ms.length = k) → Q (.int (k : Nat)) H1) ∨
  (∃ s : List Nat, x = .str ⟨s.toArray⟩ ∧ (s.length < 1000 ∧ s.Nodup) ∧ Q (.int (s.length : Nat)) H1)
theorem pe_ls {X : Cx} {a : Expr} {ta : TE} {p p2 q pos : Pos} (hg : Gl X "len") (hm : X.mg "len" = none) (hg2 : Gl X "set") (hm2 : X.mg "set" = none) (ha : PE X a ta) (hc : X.calm = true)
    (na : starEach [a] X.env = (false, eval a X.env) :: starEach [] X.env) : PE X (.Call (.Name "len" p) [.Call (.Name "set" p2) [a] [] q] [] pos) (tLS X.K ta) := by
  refine ⟨fun pins s σ H Q I h => Call_ (ld_blt I hg hm boot_len (callWith_builtin1 (args_cons (Call_ (ld_blt I hg2 hm2 boot_set (callWith_type1 (args_cons (thn (ha.run pins s σ H _ I h) fun v s1 ⟨x, H1, I1, r1, q1⟩ => args_nil ?_) na) na rfl))) rfl) rfl rfl))⟩
  rcases q1 with ⟨l, ns, rfl, hq, hl, q1⟩ | ⟨t, rfl, ⟨hl, nd⟩, q1⟩
  · cases r1
    obtain ⟨its, r, pl, hz⟩ := I1.list hq
    have hs : its.toArray.size = ns.length := by rw [List.size_toArray, ← r.length, List.length_map]
    refine call_set_list (I1.ok.hd hc) pl.isList (by simpa using RZ.intsAre_vals r) (by rw [hs]; unfold scanBound; omega) fun h1 tk hS keep => args_nil ?_
    rw [hs] at hS
    obtain ⟨o, es, ep, tb, ho, hex, hd, _, _, _, hf, hn⟩ := hS
    have I2 : Inv X pins σ H1 { s1 with heap := h1, toks := tk } := I1.kept fun b o e => keep b o (Heap.lt_size e) e
    have bnd := firstMet_length_le (fun i => ns.getD i 0) ns.length
    exact call_len_set ho hex hd hf (by rw [hn]; omega) ⟨.int _, H1, I2.tok _, ⟨_, by rw [hn]⟩, q1 _ ⟨_, met_nd _ _, met_mem ns, rfl⟩⟩
  · obtain ⟨u, rfl⟩ := r1
    have hs : (⟨t.toArray⟩ : Str).cps.size = t.length := by simp
    refine call_set_text (I1.ok.hd hc) (by rw [hs]; unfold scanBound; omega) (by simpa using nd) fun h1 tk hS keep => args_nil ?_
    rw [hs] at hS
    obtain ⟨o, es, ep, tb, ho, hex, hd, _, _, _, hf, hn⟩ := hS
    have I2 : Inv X pins σ H1 { s1 with heap := h1, toks := tk } := I1.kept fun b o e => keep b o (Heap.lt_size e) e
    exact call_len_set ho hex hd hf (by rw [hn]; omega) ⟨.int _, H1, I2.tok _, ⟨_, by rw [hn]⟩, q1⟩
section
variable {C : Cn} {sp : SpT} {X : Cx}
theorem so_lenset {a : E} {ea : Expr} {p p2 q pos : Pos} (hK : X.K = C.K) (hc : X.calm = true) (hg : Gl X "len") (hm : X.mg "len" = none) (hg2 : Gl X "set") (hm2 : X.mg "set" = none) (hp : plainA ea = true) (ha : PE X ea (tB C sp a)) :
    PE X (.Call (.Name "len" p) [.Call (.Name "set" p2) [ea] [] q] [] pos) (tE C sp (.bi1 .lenset a)) := by
  refine (pe_ls hg hm hg2 hm2 ha hc (star1 hp)).conv fun σ H Q q => ?_
  obtain ⟨cc, O, env, R, A, hv, k⟩ := q
  refine tB_use A hv fun x vx H1 r1 s1 e1 => ?_
  rw [hK]
  have fin : ∀ n : Nat, R (.int n) → Q (.int (n : Nat)) H1 := fun n hr => k (.int n) (.int n) H1 hr s1 rfl (fun _ => frl_no fun _ z => nomatch z)
  cases x <;> first | exact r1.elim | skip
  · rename_i t
    cases e1.nl (fun _ z => nomatch z)
    obtain ⟨h1, h2⟩ := r1
    exact .inr ⟨t, rfl, h1, fin _ h2⟩
  · obtain ⟨ns, e, h1, h2⟩ := r1
    obtain ⟨l, rfl, h4⟩ := intsB e1 e
    exact .inl ⟨l, ns, rfl, h4, h1, fun n hn => fin n (h2 n hn)⟩
end
end Lh
/-! EN: enumerate over a list or a tuple -/
namespace Lh
open PySem PySem.Spec PyProof.Rows L2
set_option maxHeartbeats 2000000 in
theorem meets_num {v : Value} {o : Obj} {S : Heap → Prop} (B : Begins v o S) :
    Meets (Builtin.«enumerate.__new__» ⟨[.type "enumerate", v], []⟩) (fun _ R s => S s.heap ∧ R (.ok (.ret (.ref (s.heap.push o).objs.size))) { s with heap := (s.heap.push o).push { cls := .type "enumerate", data := .fields #[.none, .bool false, .ref s.heap.objs.size, rawInt 0, .none, .none] } }) :=
  .of_wp fun prog w A R s q => by
    obtain ⟨hp, gn, dr, tk, os⟩ := s
    obtain ⟨qs, q⟩ := q
    have sub := sub_enumerate
    have itr : ∀ {B2 : Around} {E Q : Value → Shared → Prop}, Q (.ref hp.objs.size) ⟨hp.push o, gn, dr, tk, os⟩ → wpAny (model prog w) B2 (pyIter v) Q E ⟨hp, gn, dr, tk, os⟩ := fun z => B.iter prog w _ _ ⟨hp, gn, dr, tk, os⟩ _ qs z
    wp_walk using itr
    refine wpAny_stack_any fun _ => wpAny_pure ?_
    split
    · rename_i c _ _ _ _ _
      cases (c == Value.type "enumerate") <;> (wp_walk using itr; exact ⟨_, rfl, q⟩)
    · wp_walk using itr
      exact ⟨_, rfl, q⟩
theorem num_begins {prog : Program} {w : World} {A : Around} {E : Value → Shared → Prop} {s : Shared} {v : Value} {o : Obj} {S : Heap → Prop} {Q : Value → Shared → Prop} (B : Begins v o S) (hS : S s.heap)
    (h : ∀ g, IsEnum g (s.heap.objs.size + 1) s.heap.objs.size 0 .none → g.get? s.heap.objs.size = some o → g.objs.size = s.heap.objs.size + 2 → (∀ b p, s.heap.get? b = some p → g.get? b = some p) → Q (.ref (s.heap.objs.size + 1)) { s with heap := g }) :
    wpAny (model prog w) A (call (.type "enumerate") [v]) Q E s := by
  refine callType_new F.called_enumerate (by decide) (F.typeCall_enumerate_1 _) (F.newCall_enumerate_1 _) (fun obj => F.args_object_init_2 obj _) F.entry_enumerate_new (meets_num B) ⟨hS, ?_⟩
  have sz : (s.heap.push o).objs.size = s.heap.objs.size + 1 := Heap.size_push ..
  show _ ∧ _
  rw [sz]
  have new : IsEnum ((s.heap.push o).push { cls := .type "enumerate", data := .fields #[.none, .bool false, .ref s.heap.objs.size, rawInt 0, .none, .none] }) (s.heap.objs.size + 1) s.heap.objs.size 0 .none := by
    have g := Heap.get?_push_size (s.heap.push o) (o := { cls := .type "enumerate", data := .fields #[.none, .bool false, .ref s.heap.objs.size, rawInt 0, .none, .none] }) rfl
    rw [sz] at g
    exact g
  exact ⟨⟨_, new, rfl⟩, h _ new (Heap.get?_push_of_some _ (Heap.get?_push_size _ B.free)) (by rw [Heap.size_push, sz]) fun b p e => Heap.get?_push_of_some _ (Heap.get?_push_of_some _ e)⟩
def iNumX (K : PySem.W.Frag) (ta : TA) : TI := fun σ H R => ta σ H fun vs H1 => ∃ (k : Bool) (a : Addr) (xs : List V), vs = [.ref a] ∧ Src K k H1 a xs ∧ R (ItN K k a) H1
theorem pi_numX {X : Cx} {e : Expr} {ta : TA} {p pos tpos : Pos} {elts : List Expr} {kk : Nat} (g : Gl X "enumerate") (m : X.mg "enumerate" = none) (ha : PA X [e] ta) (p1 : plainA e = true) :
    PI X (.Tuple elts kk tpos) (.Call (.Name "enumerate" p) [e] [] pos) (iNumX X.K ta) := by
  refine ⟨fun pins s σ H R I h => Call_ (ld_blt I g m boot_enumerate (callWith_type1 (thn (ha.run pos pins s σ H _ I h) fun us s1 ⟨vs, H1, I1, r1, q1⟩ => ?_) (star1 p1) rfl))⟩
  obtain ⟨k, a, xs, rfl, src, q⟩ := q1
  cases r1 with
  | cons r rr =>
    cases rr
    cases r
    obtain ⟨its, rv, q1, la⟩ := src_at I1 src
    refine num_begins (begins k a its.toArray) q1 fun h2 en it sz kp => wpAny_pyIter_enum en ?_
    have I2 : Inv X pins σ H1 { s1 with heap := h2 } := I1.kept (t' := s1.toks) kp
    refine ⟨s1.heap.objs.size + 1, [s1.heap.objs.size + 1, s1.heap.objs.size], _, _, H1, rfl, I2, turn_enumX (k := k) (a := a) (e := s1.heap.objs.size + 1) (i1 := s1.heap.objs.size) (Nat.ne_of_lt la) (Nat.succ_ne_self _) (fun z => by rw [← z] at la; exact absurd la (Nat.not_lt.mpr (Nat.le_succ _))), ⟨⟨.none, en⟩, itO_at it⟩, fun c hc => ?_, q⟩
    have cs : c = s1.heap.objs.size + 1 ∨ c = s1.heap.objs.size := by simpa using hc
    have le : s1.heap.objs.size ≤ c := by rcases cs with z | z <;> rw [z] <;> omega
    exact I1.fpOk le (I1.hok.fresh le)
section
variable {C : Cn} {sp : SpT} {X : Cx}
theorem enumL_get : ∀ {l : List PV} {n i : Nat} {p : PV}, l[i]? = some p → (enumL n l)[i]? = some (.tup [.int ((n + i : Nat) : Int), p])
  | [], _, i, _, h => by cases h
  | q :: l, n, 0, p, h => by cases h; rfl
  | q :: l, n, i + 1, p, h => by
    have := enumL_get (l := l) (n := n + 1) (i := i) (by simpa using h)
    rw [show n + 1 + i = n + (i + 1) by omega] at this
    simpa [enumL] using this
theorem enumL_len : ∀ (l : List PV) (n : Nat), (enumL n l).length = l.length
  | [], _ => rfl
  | _ :: l, n => by simp [enumL, enumL_len l]
theorem wk_num {b : Bool} {O : Addr → Prop} {H : Hp} {k : Bool} {a : Addr} {vs : List V} {l : List PV} (r : Reps C O H l vs) (st : ∀ O2 H2, Per b O H O2 H2 → Src C.K k H2 a vs) : Wk C b O H (ItN C.K k a) (enumL 0 l) := by
  have hl : (enumL 0 l).length = vs.length := by rw [enumL_len, r.length]
  refine ⟨fun H2 => Src C.K k H2 a vs, YPair (fun i => some (.int (i : Nat))) (fun i => vs[i]?), ?_, fun O2 H2 pr => st O2 H2 pr, fun i O2 H2 x H3 hi pr dm y => ?_⟩
  · rw [hl]
    refine ⟨fun i H2 hi q => ⟨vs, vs[i], q, by simp [hi]⟩, fun H2 q => ⟨vs, q, rfl⟩, fun i H2 v H3 hi q y => ?_⟩
    obtain ⟨T, x, h1, h2, h3, h4⟩ := y
    exact ⟨T, _, x, h1, h2, h3, rfl, h4 vs q⟩
  · obtain ⟨T, u, w, rfl, hn, rfl, h1, h2⟩ := y
    cases h1
    obtain ⟨q, e2, q2⟩ := r.get' h2
    refine ⟨same_new hn, _, enumL_get e2, ?_⟩
    rw [Nat.zero_add]
    exact new_tup dm hn (⟨_, [w], rfl, rfl, ⟨w, [], rfl, q2.ext pr.1, rfl⟩⟩ : Reps C O2 H2 [.int (i : Nat), q] [.int (i : Nat), w])
theorem si_num {b : Bool} {a : E} {ea : Expr} {elts : List Expr} {kk : Nat} {tpos p pos : Pos} (hK : X.K = C.K) (hg : Gl X "enumerate") (hm : X.mg "enumerate" = none) (hp : plainA ea = true) (h : PE X ea (tX C sp b a)) :
    PI X (.Tuple elts kk tpos) (.Call (.Name "enumerate" p) [ea] [] pos) (tI C sp b (.enum a)) := by
  refine ⟨fun pins s σ H R I q => (pi_numX hg hm (pa_cons h pa_nil (star1 hp)) hp).run pins s σ H R I ?_⟩
  obtain ⟨cc, O, env, Rq, A, hv, k⟩ := q
  refine ⟨cc, O, env, _, A, hv, fun x vx H1 r1 s1 e1 => ?_⟩
  obtain ⟨l, g1, q⟩ := r1
  obtain ⟨k1, a1, vs, rfl, h1, h2, h3⟩ := src_of e1 g1
  rw [hK]
  exact ⟨k1, a1, vs, rfl, h1, k _ _ H1 q s1 (wk_num h2 h3)⟩
end
end Lh
set_option maxHeartbeats 1000000
/-! E15: every checked expression has its reading. -/
namespace Lh
open PySem PySem.Spec PyProof.Rows L2
section
variable {B : Tab} {C : Cn} {sp : SpT} {N : List Str} {lv : Nat}
mutual
theorem soTg : ∀ (tg : Tg) {sc : Scope} {as : List Str} {X : Cx} (G : GX B C sp N lv sc as X) (a : Expr), chkTg N as tg a = true → PG X a (tG C tg)
  | .nm i, sc, as, X, G, a, h => by
    cases a <;> first | exact (Bool.false_ne_true h).elim | skip
    obtain ⟨h1, h2⟩ := and3 h
    obtain ⟨g1, g2⟩ := G.asg _ (by simpa using h2)
    exact sg_nm (by rw [G.eN]; exact G.nd) (by rw [G.eN]; exact beq_iff_eq.mp h1) (by rw [G.eS]; exact g1) (by rw [G.eS]; exact g2)
  | .tp ts, sc, as, X, G, a, h => by
    cases a <;> first | exact (Bool.false_ne_true h).elim | skip
    rename_i es _ _
    obtain ⟨h1, h2, h3, h4⟩ := soTgs ts G es h
    exact sg_tp G.eK G.calm h2 h3 h4 h1
theorem soTgs : ∀ (ts : List Tg) {sc : Scope} {as : List Str} {X : Cx} (G : GX B C sp N lv sc as X) (es : List Expr), chkTgs N as ts es = true → PGs X es (tGs C ts) ∧ es.length = ts.length ∧ (assignEach es X.env).length = ts.length ∧ (assignEach es X.env).findIdx? (·.1) = none
  | [], sc, as, X, G, es, h => by
    cases es with
    | nil => exact ⟨sg_nil, rfl, rfl, rfl⟩
    | cons _ _ => exact (Bool.false_ne_true h).elim
  | t :: ts, sc, as, X, G, es, h => by
    cases es with
    | nil => exact (Bool.false_ne_true h).elim
    | cons e es =>
      obtain ⟨h1, h2⟩ := and3 h
      obtain ⟨h1, h3⟩ := and3 h1
      obtain ⟨g1, g2, g3, g4⟩ := soTgs ts G es h2
      have q := soTg t G e h3
      have st : assignEach (e :: es) X.env = (false, assign e X.env) :: assignEach es X.env := by
        cases e <;> first | rfl | cases h1
      exact ⟨sg_cons (by rw [st]; rfl) q g1, by simp [g2], by rw [st]; simp [g3], by rw [st, List.findIdx?_cons]; simp [g4]⟩
end
theorem vsAll {S vs : List Nat} (h : S.all vs.contains = true) : ∀ i ∈ S, i ∈ vs := fun i hi => by simpa using (List.all_eq_true.mp h) i hi
theorem blt_nm {sc : Scope} {as : List Str} {X : Cx} (G : GX B C sp N lv sc as X) {x : Str} (h : x ∈ bltNames) : X.mg x = none := G.blt x h
theorem bNot {E : E} {a : Expr} {X : Cx} (hv : ∀ i, E = .var i → PE X a (tVar i)) (ho : ∀ i f, E = .ofld i f → PE X a (tB C sp (.ofld i f))) (h : PE X a (tE C sp E)) : PE X a (tB C sp E) := by
  by_cases h1 : ∃ i, E = .var i
  · obtain ⟨i, rfl⟩ := h1; exact sb_var (hv i rfl)
  · by_cases h2 : ∃ i f, E = .ofld i f
    · obtain ⟨i, f, rfl⟩ := h2; exact ho i f rfl
    · exact sb_of (fun i z => h1 ⟨i, z⟩) (fun i f z => h2 ⟨i, f, z⟩) h
def isBO : Expr → Bool
  | .BoolOp .. => true
  | _ => false
def isCm : Expr → Bool
  | .Compare .. => true
  | _ => false
/-- a borrowed reading of what is checked -/
theorem soB {e : E} {sc : Scope} {as : List Str} {X : Cx} (G : GX B C sp N lv sc as X) {a : Expr} (h : chkE B N lv sc e a = true) (q : PE X a (tE C sp e)) : PE X a (tB C sp e) := by
  refine bNot (fun i z => ?_) (fun i f z => ?_) q
  · subst z
    cases a <;> first | exact (Bool.false_ne_true h).elim | skip
    exact G.var h
  · subst z
    cases a <;> first | exact (Bool.false_ne_true h).elim | skip
    rename_i o s p
    cases o <;> first | exact (Bool.false_ne_true h).elim | skip
    obtain ⟨h1, h2⟩ := and3 h
    exact sb_ofld G.eK (by rw [G.nm]; exact beq_iff_eq.mp h2) G.inj rfl (G.var h1)
/-- an argument -/
theorem soA {e : E} {m : Md} (hm : m ≠ .io) {sc : Scope} {as : List Str} {X : Cx} (G : GX B C sp N lv sc as X) {a : Expr} (h : chkE B N lv sc e a = true) (q : PE X a (tE C sp e)) : PE X a (tA C sp m e) := by
  cases m with
  | va => exact sa_va q
  | io => exact absurd rfl hm
  | bo =>
    by_cases h1 : ∃ i, e = .var i
    · obtain ⟨i, rfl⟩ := h1
      cases a <;> first | exact (Bool.false_ne_true h).elim | skip
      exact sa_boVar (G.var h)
    · by_cases h2 : ∃ i f, e = .ofld i f
      · obtain ⟨i, f, rfl⟩ := h2
        cases a <;> first | exact (Bool.false_ne_true h).elim | skip
        rename_i o s p
        cases o <;> first | exact (Bool.false_ne_true h).elim | skip
        obtain ⟨h1, h2⟩ := and3 h
        exact sa_boOfld G.eK (by rw [G.nm]; exact beq_iff_eq.mp h2) G.inj rfl (G.var h1)
      · exact sa_bo (fun i z => h1 ⟨i, z⟩) (fun i f z => h2 ⟨i, f, z⟩) q
theorem kws_ok : ∀ {ks : Es} {kws : List Keyword} {sc : Scope} {env : PySem.Env} {pos : Pos}, chkKs B N lv sc ks kws = true → (backToKw pos (keywordEach kws env)).all (·.1.isSome) = true ∧ (backToKw pos (keywordEach kws env)).filterMap (·.1) = knOf kws ∧ (backToKw pos (keywordEach kws env)).any (·.1.isNone) = false ∧ lenEs ks = (knOf kws).length
  | .nil, [], _, _, _, _ => ⟨rfl, rfl, rfl, rfl⟩
  | .nil, _ :: _, _, _, _, h => (Bool.false_ne_true h).elim
  | .cons _ _, [], _, _, _, h => (Bool.false_ne_true h).elim
  | .cons e es, ⟨none, a, p⟩ :: ks, _, _, _, h => (Bool.false_ne_true h).elim
  | .cons e es, ⟨some s, a, p⟩ :: ks, sc, env, pos, h => by
    obtain ⟨h1, h2⟩ := and3 h
    obtain ⟨g1, g2, g3, g4⟩ := kws_ok (env := env) (pos := pos) h2
    refine ⟨?_, ?_, ?_, ?_⟩
    · show (true && (backToKw pos (keywordEach ks env)).all (·.1.isSome)) = true
      rw [g1]; rfl
    · show s :: (backToKw pos (keywordEach ks env)).filterMap (·.1) = s :: knOf ks
      rw [g2]
    · show (false || (backToKw pos (keywordEach ks env)).any (·.1.isNone)) = false
      rw [g3]; rfl
    · show lenEs es + 1 = (knOf ks).length + 1
      rw [g4]
theorem oneArg_ok {r ea : Expr} {y : Str} (h : oneArg r = some (y, ea)) : ∃ p q, r = .Call (.Name y p) [ea] [] q := by
  unfold oneArg at h
  split at h
  · cases h; exact ⟨_, _, rfl⟩
  · cases h
theorem twoArg_ok {r ea eb : Expr} {y : Str} (h : twoArg r = some (y, ea, eb)) : ∃ p q, r = .Call (.Name y p) [ea, eb] [] q := by
  unfold twoArg at h
  split at h
  · cases h; exact ⟨_, _, rfl⟩
  · cases h
theorem soTy {t : Ty} {sc : Scope} {as : List Str} {X : Cx} (G : GX B C sp N lv sc as X) {et : Expr} (h : chkTy B sc t et = true) : tyOf? C t ∧ PE X et (tC (tyV1 C t).1) ∧ plainA et = true := by
  cases et <;> first | exact (Bool.false_ne_true h).elim | skip
  obtain ⟨h1, h2⟩ := and3 h
  by_cases ht : ∃ c, t = .cls c
  · obtain ⟨c, rfl⟩ := ht
    obtain ⟨h3, h4⟩ := and3 h2
    obtain ⟨g1, g2⟩ := G.cls _ _ (beq_iff_eq.mp h4)
    exact ⟨g1, pe_glob (G.gl h1) g2 rfl (nameOk_db h3), rfl⟩
  · cases t <;> first | exact absurd ⟨_, rfl⟩ ht | skip
    all_goals
      obtain rfl := beq_iff_eq.mp (show (_ == _) = true from h2)
      exact ⟨trivial, pe_bltn (G.gl h1) (G.blt _ (by decide)) rfl rfl (by decide) (by decide), rfl⟩
theorem cmp_shape {e : E} {sc : Scope} {ea : Expr} {ops : List CmpOp} {es : List Expr} {pos : Pos} (h : chkE B N lv sc e (.Compare ea ops es pos) = true) : (∃ o x y, e = .cmp o x y) ∨ ∃ o o' x y z, e = .chain o o' x y z := by
  cases e <;> first | exact (Bool.false_ne_true h).elim | exact .inl ⟨_, _, _, rfl⟩ | exact .inr ⟨_, _, _, _, _, rfl⟩ | skip
  · rename_i p; cases p <;> exact (Bool.false_ne_true h).elim
  · rename_i f _; cases f <;> exact (Bool.false_ne_true h).elim
  · rename_i f _ _; cases f <;> exact (Bool.false_ne_true h).elim
  · rename_i f _ _; cases f <;> exact (Bool.false_ne_true h).elim
mutual
theorem soE : ∀ (e : E) {sc : Scope} {as : List Str} {X : Cx} (G : GX B C sp N lv sc as X) (a : Expr), chkE B N lv sc e a = true → PE X a (tE C sp e)
  | .var i, sc, as, X, G, a, h => by
    cases a <;> first | exact (Bool.false_ne_true h).elim | skip
    exact so_var (G.var h)
  | .ofld i f, sc, as, X, G, a, h => by
    cases a <;> first | exact (Bool.false_ne_true h).elim | skip
    rename_i o s p
    cases o <;> first | exact (Bool.false_ne_true h).elim | skip
    obtain ⟨h1, h2⟩ := and3 h
    exact so_ofld G.eK (by rw [G.nm]; exact beq_iff_eq.mp h2) G.inj rfl (G.var h1)
  | .cint i, sc, as, X, G, a, h => by
    cases a <;> first | exact (Bool.false_ne_true h).elim | skip
    rename_i c _ _
    cases c <;> first | exact (Bool.false_ne_true h).elim | skip
    obtain rfl := beq_iff_eq.mp (show (_ == _) = true from h)
    exact so_const pe_int (fun _ _ z => z) (fun _ _ => rfl) rfl
  | .cbl i, sc, as, X, G, a, h => by
    cases a <;> first | exact (Bool.false_ne_true h).elim | skip
    rename_i c _ _
    cases c <;> first | exact (Bool.false_ne_true h).elim | skip
    obtain rfl := beq_iff_eq.mp (show (_ == _) = true from h)
    exact so_const pe_bl (fun _ _ z => z) (fun _ _ => rfl) rfl
  | .cnon, sc, as, X, G, a, h => by
    cases a <;> first | exact (Bool.false_ne_true h).elim | skip
    rename_i c _ _
    cases c <;> first | exact (Bool.false_ne_true h).elim | skip
    exact so_const pe_non (fun _ _ z => z) (fun _ _ => rfl) rfl
  | .cstr s, sc, as, X, G, a, h => by
    cases a <;> first | exact (Bool.false_ne_true h).elim | skip
    rename_i c _ _
    cases c <;> first | exact (Bool.false_ne_true h).elim | skip
    obtain rfl := beq_iff_eq.mp (show (_ == _) = true from h)
    exact so_const pe_str (fun _ _ z => z) (fun _ _ => rfl) rfl
  | .gl k p, sc, as, X, G, a, h => by
    have fin : ∀ {x : Str} {pos : Pos}, glB sc x = true → nameOk x = true → (∃ y, B.gl[k]? = some (y, p) ∧ y = x) → PE X (.Name x pos) (tE C sp (.gl k p)) := by
      intro x pos h1 h2 h3
      obtain ⟨y, h3, rfl⟩ := h3
      obtain ⟨u, v, g1, g2, g3⟩ := G.glo k y p h3
      exact so_const (pe_glob (G.gl h1) g1 g2 (nameOk_db h2)) (fun _ _ z => z) (fun _ _ => cV_rep g3) rfl
    cases p <;> first | exact (Bool.false_ne_true h).elim | skip
    all_goals cases a <;> first | exact (Bool.false_ne_true h).elim | skip
    all_goals
      obtain ⟨h1, h2⟩ := and3 h
      obtain ⟨h1, h3⟩ := and3 h1
      refine fin h1 h3 ?_
      split at h2
      · rename_i y s' e
        obtain ⟨h4, h5⟩ := and3 h2
        exact ⟨y, by rw [beq_iff_eq.mp h5]; exact e, beq_iff_eq.mp h4⟩
      · exact (Bool.false_ne_true h2).elim
  | .bin o x y, sc, as, X, G, a, h => by
    cases a <;> first | exact (Bool.false_ne_true h).elim | skip
    obtain ⟨h, h3⟩ := and3 h
    obtain ⟨h1, h2⟩ := and3 h
    obtain rfl := beq_iff_eq.mp h1
    exact so_bin G.eK (soB G h2 (soE x G _ h2)) (soB G h3 (soE y G _ h3))
  | .neg x, sc, as, X, G, a, h => by
    cases a <;> first | exact (Bool.false_ne_true h).elim | skip
    rename_i op _ _
    cases op <;> first | exact (Bool.false_ne_true h).elim | skip
    exact so_neg (soE x G _ h)
  | .cmp o x y, sc, as, X, G, a, h => by
    cases a <;> first | exact (Bool.false_ne_true h).elim | skip
    rename_i ea ops es pos
    match ops, es, h with
    | [op], [eb], h =>
      obtain ⟨h, h4⟩ := and3 h
      obtain ⟨h, h3⟩ := and3 h
      obtain ⟨h1, h2⟩ := and3 h
      obtain rfl := beq_iff_eq.mp h1
      exact so_cmp G.eK G.hu (marks_of h2) (soB G h3 (soE x G _ h3)) (soB G h4 (soE y G _ h4))
    | [], _, h => exact (Bool.false_ne_true h).elim
    | _ :: _ :: _, _, h => exact (Bool.false_ne_true h).elim
    | [_], [], h => exact (Bool.false_ne_true h).elim
    | [_], _ :: _ :: _, h => exact (Bool.false_ne_true h).elim
  | .chain o o' x y z, sc, as, X, G, a, h => by
    cases a <;> first | exact (Bool.false_ne_true h).elim | skip
    rename_i ea ops es pos
    match ops, es, h with
    | [op, op'], [eb, ec], h =>
      obtain ⟨h, h7⟩ := and3 h
      obtain ⟨h, h6⟩ := and3 h
      obtain ⟨h, h5⟩ := and3 h
      obtain ⟨h, h4⟩ := and3 h
      obtain ⟨h, h3⟩ := and3 h
      obtain ⟨h1, h2⟩ := and3 h
      obtain rfl := beq_iff_eq.mp h1
      obtain rfl := beq_iff_eq.mp h2
      exact so_chain G.eK G.hu (last_of h3 h4) (soE x G _ h5) (soE y G _ h6) (soE z G _ h7)
    | [], _, h => exact (Bool.false_ne_true h).elim
    | [_], _, h => exact (Bool.false_ne_true h).elim
    | _ :: _ :: _ :: _, _, h => exact (Bool.false_ne_true h).elim
    | [_, _], [], h => exact (Bool.false_ne_true h).elim
    | [_, _], [_], h => exact (Bool.false_ne_true h).elim
    | [_, _], _ :: _ :: _ :: _, h => exact (Bool.false_ne_true h).elim
  | .and2 x y, sc, as, X, G, a, h => by
    cases a <;> first | exact (Bool.false_ne_true h).elim | skip
    rename_i op es pos
    cases op <;> first | exact (Bool.false_ne_true h).elim | skip
    match es, h with
    | ea :: eb :: rest, h =>
      obtain ⟨h1, h2⟩ := and3 h
      exact so_and2 (soE x G _ h1) (soE y G _ h2)
    | [], h => exact (Bool.false_ne_true h).elim
    | [_], h => exact (Bool.false_ne_true h).elim
  | .and1 x, sc, as, X, G, a, h => by
    cases a <;> first | exact (Bool.false_ne_true h).elim | skip
    rename_i op es pos
    cases op <;> first | exact (Bool.false_ne_true h).elim | skip
    match es, h with
    | [ea], h => exact so_one (a := x) (fun _ _ z => z) rfl (soE x G _ h)
    | [], h => exact (Bool.false_ne_true h).elim
    | _ :: _ :: _, h => exact (Bool.false_ne_true h).elim
  | .or2 x y, sc, as, X, G, a, h => by
    cases a <;> first | exact (Bool.false_ne_true h).elim | skip
    rename_i op es pos
    cases op <;> first | exact (Bool.false_ne_true h).elim | skip
    match es, h with
    | ea :: eb :: rest, h =>
      obtain ⟨h1, h2⟩ := and3 h
      exact so_or2 (soE x G _ h1) (soE y G _ h2)
    | [], h => exact (Bool.false_ne_true h).elim
    | [_], h => exact (Bool.false_ne_true h).elim
  | .or1 x, sc, as, X, G, a, h => by
    cases a <;> first | exact (Bool.false_ne_true h).elim | skip
    rename_i op es pos
    cases op <;> first | exact (Bool.false_ne_true h).elim | skip
    match es, h with
    | [ea], h => exact so_one (a := x) (fun _ _ z => z) rfl (soE x G _ h)
    | [], h => exact (Bool.false_ne_true h).elim
    | _ :: _ :: _, h => exact (Bool.false_ne_true h).elim
  | .nott x, sc, as, X, G, a, h => by
    cases a <;> first | exact (Bool.false_ne_true h).elim | skip
    rename_i op _ _
    cases op <;> first | exact (Bool.false_ne_true h).elim | skip
    exact so_not (soE x G _ h)
  | .ife t x y, sc, as, X, G, a, h => by
    cases a <;> first | exact (Bool.false_ne_true h).elim | skip
    obtain ⟨h, h3⟩ := and3 h
    obtain ⟨h1, h2⟩ := and3 h
    exact so_ife (soT t G _ h1).1 (soE x G _ h2) (soE y G _ h3)
  | .tup es, sc, as, X, G, a, h => by
    cases a <;> first | exact (Bool.false_ne_true h).elim | skip
    obtain ⟨h1, h2⟩ := and3 h
    exact so_tup (of_decide_eq_true h1) (soEs es G _ h2)
  | .lst es, sc, as, X, G, a, h => by
    cases a <;> first | exact (Bool.false_ne_true h).elim | skip
    obtain ⟨h1, h2⟩ := and3 h
    exact so_lst (of_decide_eq_true h1) (soEs es G _ h2)
  | .ix x y, sc, as, X, G, a, h => by
    cases a <;> first | exact (Bool.false_ne_true h).elim | skip
    obtain ⟨h, h3⟩ := and3 h
    obtain ⟨h1, h2⟩ := and3 h
    exact so_ix G.eK (plain_of h1) (soB G h2 (soE x G _ h2)) (soE y G _ h3)
  | .sl x lo hi, sc, as, X, G, a, h => by
    cases a <;> first | exact (Bool.false_ne_true h).elim | skip
    rename_i ea es pos
    cases es <;> first | exact (Bool.false_ne_true h).elim | skip
    rename_i elo ehi st p2
    cases st with
    | some _ => exact (Bool.false_ne_true h).elim
    | none =>
      obtain ⟨h, h3⟩ := and3 h
      obtain ⟨h1, h2⟩ := and3 h
      exact so_sl G.eK (soB G h1 (soE x G _ h1)) (soO lo G _ h2) (soO hi G _ h3)
  | .slrev x, sc, as, X, G, a, h => by cases a <;> exact (Bool.false_ne_true h).elim
  | .fld x f, sc, as, X, G, a, h => by
    cases a <;> first | exact (Bool.false_ne_true h).elim | skip
    obtain ⟨h, h3⟩ := and3 h
    obtain ⟨h1, h2⟩ := and3 h
    exact so_fld G.eK (by rw [G.nm]; exact beq_iff_eq.mp h1) (sup_of h2) G.inj (soE x G _ h3)
  | .call j ms es, sc, as, X, G, a, h => by
    cases a <;> first | exact (Bool.false_ne_true h).elim | skip
    rename_i fn eas kws pos
    cases fn <;> first | exact (Bool.false_ne_true h).elim | skip
    match kws, h with
    | _ :: _, h => exact (Bool.false_ne_true h).elim
    | [], h =>
      obtain ⟨h, h7⟩ := and3 h
      obtain ⟨h, h6⟩ := and3 h
      obtain ⟨h, h5⟩ := and3 h
      obtain ⟨h, h4⟩ := and3 h
      obtain ⟨h, h3⟩ := and3 h
      obtain ⟨h1, h2⟩ := and3 h
      obtain ⟨fs, f1, f2, f3⟩ := fnB_ok h6
      obtain ⟨f3, f7⟩ := and3 f3
      obtain ⟨f3, f6⟩ := and3 f3
      obtain ⟨f4, f5⟩ := and3 f3
      obtain ⟨k, b, fd, F, hr, hmg, hkp, hb, _⟩ := G.calls.plain j fs f1 f2 (beq_iff_eq.mp f5)
      have e1 := beq_iff_eq.mp f4
      have e2 := mdsEq_ok f6
      have e3 : fs.kwn = [] := by simpa using f7
      subst e1
      have ha := soAs es ms G eas h4 h7
      cases eas with
      | nil =>
        cases es with
        | cons _ _ => cases ms <;> exact (Bool.false_ne_true h7).elim
        | nil =>
          cases ms with
          | cons _ _ => exact (Bool.false_ne_true h7).elim
          | nil =>
            rw [← e2] at F
            exact so_call0 F hr (G.gl h1) hmg hkp (hb e3) (nameOk_db h2)
      | cons ea eas =>
        rw [← e2] at F
        exact so_call F hr (G.gl h1) hmg hkp (hb e3) h4 h5 h3 (nameOk_db h2) ha
  | .callO j ms es, sc, as, X, G, a, h => by
    cases a <;> first | exact (Bool.false_ne_true h).elim | skip
    rename_i fn eas kws pos
    cases fn <;> first | exact (Bool.false_ne_true h).elim | skip
    match kws, h with
    | _ :: _, h => exact (Bool.false_ne_true h).elim
    | [], h =>
      obtain ⟨h, h7⟩ := and3 h
      obtain ⟨h, h6⟩ := and3 h
      obtain ⟨h, h5⟩ := and3 h
      obtain ⟨h, h4⟩ := and3 h
      obtain ⟨h, h3⟩ := and3 h
      obtain ⟨h1, h2⟩ := and3 h
      obtain ⟨fs, f1, f2, f3⟩ := fnB_ok h6
      obtain ⟨f3, f7⟩ := and3 f3
      obtain ⟨f3, f6⟩ := and3 f3
      obtain ⟨f4, f5⟩ := and3 f3
      obtain ⟨f7, f8⟩ := and3 f7
      obtain ⟨h3a, h3⟩ := and3 h3
      obtain ⟨k, b, fd, F, hr, hmg, hkp, hb, _⟩ := G.calls.plain j fs f1 f2 (beq_iff_eq.mp f5)
      have e1 := beq_iff_eq.mp f4
      have e2 := mdsEq_ok f6
      have e3 : fs.kwn = [] := by simpa using f7
      subst e1
      have ha := soAs es ms G eas h4 h7
      cases eas with
      | nil => cases h3a
      | cons ea eas =>
        rw [← e2] at F
        exact so_callO ((G.own j fs f1).trans f8) F hr (G.gl h1) hmg hkp (hb e3) h4 h5 h3 (nameOk_db h2) ha
  | .make c j ms es, sc, as, X, G, a, h => by
    cases a <;> first | exact (Bool.false_ne_true h).elim | skip
    rename_i fn eas kws pos
    cases fn <;> first | exact (Bool.false_ne_true h).elim | skip
    match kws, h with
    | _ :: _, h => exact (Bool.false_ne_true h).elim
    | [], h =>
      obtain ⟨h, h8⟩ := and3 h
      obtain ⟨h, h7⟩ := and3 h
      obtain ⟨h, h6⟩ := and3 h
      obtain ⟨h, h5⟩ := and3 h
      obtain ⟨h, h4⟩ := and3 h
      obtain ⟨h, h3⟩ := and3 h
      obtain ⟨h1, h2⟩ := and3 h
      obtain ⟨fs, f1, f2, f3⟩ := fnB_ok h7
      obtain ⟨f3, f7⟩ := and3 f3
      obtain ⟨f3, f6⟩ := and3 f3
      obtain ⟨f4, f5⟩ := and3 f3
      obtain ⟨k, b, fd, F, hr, M, hcl, hb, _⟩ := G.calls.init j fs c f1 f2 (beq_iff_eq.mp f5) (beq_iff_eq.mp f4)
      have e2 := mdsEq_ok f6
      have e3 : fs.kwn = [] := by simpa using f7
      have hmg := (G.cls c _ (beq_iff_eq.mp h6)).2
      have ha := soAs es ms G eas h4 h8
      rw [← e2] at F
      cases eas with
      | nil =>
        cases es with
        | cons _ _ => cases ms <;> exact (Bool.false_ne_true h8).elim
        | nil =>
          cases ms with
          | cons _ _ => exact (Bool.false_ne_true h8).elim
          | nil => exact so_make0 G.eK M hcl F hr (G.gl h1) hmg (hb e3) (nameOk_db h2)
      | cons ea eas => exact so_make G.eK M hcl F hr (G.gl h1) hmg (hb e3) h4 h5 h3 (nameOk_db h2) ha
  | .dun c j x y, sc, as, X, G, a, h => by
    cases a <;> first | exact (Bool.false_ne_true h).elim | skip
    rename_i ea op eb pos
    cases op <;> first | exact (Bool.false_ne_true h).elim | skip
    obtain ⟨h, h3⟩ := and3 h
    obtain ⟨h1, h2⟩ := and3 h
    obtain ⟨fs, f1, f2, f3⟩ := fnB_ok h1
    obtain ⟨f3, f7⟩ := and3 f3
    obtain ⟨f3, f6⟩ := and3 f3
    obtain ⟨f4, f5⟩ := and3 f3
    have e1 := beq_iff_eq.mp f4
    have hni : fs.name ≠ ("__init__" : Str) := fun z => by
      rw [e1] at z; exact absurd z (by decide)
    obtain ⟨k, b, fd, F, hr, M, hcl, hb⟩ := G.calls.meth j fs c f1 f2 (beq_iff_eq.mp f5) hni
    have e2 := mdsEq_ok f6
    have e3 : fs.kwn = [] := by simpa using f7
    rw [e1] at M
    rw [← e2] at F
    exact so_dun (by rw [G.eK]; exact G.isi.sf c hcl.1) M F hr (hb e3) (soE x G _ h2) (soE y G _ h3)
  | .meth c m j ms o es, sc, as, X, G, a, h => by
    cases a <;> first | exact (Bool.false_ne_true h).elim | skip
    rename_i fn eas kws pos
    cases fn <;> first | exact (Bool.false_ne_true h).elim | skip
    rename_i rc nm apos
    cases rc <;> first | exact (Bool.false_ne_true h).elim | skip
    match kws, h with
    | _ :: _, h => exact (Bool.false_ne_true h).elim
    | [], h =>
      obtain ⟨h10, h⟩ := and3 h
      obtain ⟨h, h9⟩ := and3 h
      obtain ⟨h, h8⟩ := and3 h
      obtain ⟨h, h7⟩ := and3 h
      obtain ⟨h, h6⟩ := and3 h
      obtain ⟨h, h5⟩ := and3 h
      obtain ⟨h, h4⟩ := and3 h
      obtain ⟨h, h3⟩ := and3 h
      obtain ⟨h1, h2⟩ := and3 h
      obtain ⟨fs, f1, f2, f3⟩ := fnB_ok h7
      obtain ⟨f3, f7⟩ := and3 f3
      obtain ⟨f3, f6⟩ := and3 f3
      obtain ⟨f4, f5⟩ := and3 f3
      have e1 := beq_iff_eq.mp f4
      have hni : fs.name ≠ ("__init__" : Str) := fun z => by
        rw [← e1, z] at h10; exact absurd h10 (by decide)
      obtain ⟨k, b, fd, F, hr, M, hcl, hb⟩ := G.calls.meth j fs c f1 f2 (beq_iff_eq.mp f5) hni
      have e2 := mdsEq_ok f6
      have e3 : fs.kwn = [] := by simpa using f7
      have hnf : ∀ f, C.nm f ≠ some nm := fun f z => by
        rw [G.nm] at z
        have : B.nm.contains nm = true := by simpa using List.mem_of_getElem? z
        rw [this] at h4; cases h4
      rw [e1] at M
      rw [← e2] at F
      have ha := soAs es ms G eas h2 h9
      cases o <;> first | exact (Bool.false_ne_true h8).elim | skip
      have ho := sa_boVar (C := C) (sp := sp) (G.var (pos := by assumption) h8)
      cases eas with
      | nil =>
        cases es with
        | cons _ _ => cases ms <;> exact (Bool.false_ne_true h9).elim
        | nil =>
          cases ms with
          | cons _ _ => exact (Bool.false_ne_true h9).elim
          | nil => exact so_meth0 G.eK hcl M F hr (hb e3) h3 hnf h5 ho
      | cons ea eas => exact so_meth G.eK hcl M F hr (hb e3) h2 h3 h1 hnf h5 (of_decide_eq_true h6) ho ha
  | .callk j ms es ks sel, sc, as, X, G, a, h => by
    cases a <;> first | exact (Bool.false_ne_true h).elim | skip
    rename_i fn eas kws pos
    cases fn <;> first | exact (Bool.false_ne_true h).elim | skip
    obtain ⟨h, h9⟩ := and3 h
    obtain ⟨h, h8⟩ := and3 h
    obtain ⟨h, h7⟩ := and3 h
    obtain ⟨h, h6⟩ := and3 h
    obtain ⟨h, h5⟩ := and3 h
    obtain ⟨h, h4⟩ := and3 h
    obtain ⟨h, h3⟩ := and3 h
    obtain ⟨h1, h2⟩ := and3 h
    obtain ⟨fs, f1, f2, f3⟩ := fnB_ok h7
    obtain ⟨f3, f9⟩ := and3 f3
    obtain ⟨f3, f8⟩ := and3 f3
    obtain ⟨f3, f7⟩ := and3 f3
    obtain ⟨f3, f6⟩ := and3 f3
    obtain ⟨f4, f5⟩ := and3 f3
    obtain ⟨k, b, fd, F, hr, hmg, hkp, _, hb⟩ := G.calls.plain j fs f1 f2 (beq_iff_eq.mp f5)
    have e1 := beq_iff_eq.mp f4
    have e2 := mdsEq_ok f6
    have hb := hb _ sel f8 f9
    rw [show fs.ps.length - sel.length = ms.length by rw [beq_iff_eq.mp f7]; omega] at hb
    subst e1
    rw [← e2] at F
    have ha := soAs es ms G eas h5 h8
    obtain ⟨g1, g2, g3, g4⟩ := kws_ok (env := X.env) (pos := pos) h9
    cases eas with
    | nil => exact absurd h3 (by decide)
    | cons ea eas => exact so_callk F hr (G.gl h1) hmg hkp hb h5 h6 h4 (nameOk_db h2) g4 ha (soKs ks G kws h9) g1 g2 (by rw [g3, Bool.or_false]; exact starN h4)
  | .makek c j ms es ks sel, sc, as, X, G, a, h => by
    cases a <;> first | exact (Bool.false_ne_true h).elim | skip
    rename_i fn eas kws pos
    cases fn <;> first | exact (Bool.false_ne_true h).elim | skip
    obtain ⟨h, h9⟩ := and3 h
    obtain ⟨h, h8⟩ := and3 h
    obtain ⟨h, h7⟩ := and3 h
    obtain ⟨h, h10⟩ := and3 h
    obtain ⟨h, h6⟩ := and3 h
    obtain ⟨h, h5⟩ := and3 h
    obtain ⟨h, h4⟩ := and3 h
    obtain ⟨h, h3⟩ := and3 h
    obtain ⟨h1, h2⟩ := and3 h
    obtain ⟨fs, f1, f2, f3⟩ := fnB_ok h7
    obtain ⟨f3, f9⟩ := and3 f3
    obtain ⟨f3, f8⟩ := and3 f3
    obtain ⟨f3, f7⟩ := and3 f3
    obtain ⟨f3, f6⟩ := and3 f3
    obtain ⟨f4, f5⟩ := and3 f3
    obtain ⟨k, b, fd, F, hr, M, hcl, _, hb⟩ := G.calls.init j fs c f1 f2 (beq_iff_eq.mp f5) (beq_iff_eq.mp f4)
    have e2 := mdsEq_ok f6
    have hb := hb _ sel f8 f9
    rw [show fs.ps.length - sel.length = ms.length + 1 by rw [beq_iff_eq.mp f7]; omega] at hb
    have hmg := (G.cls c _ (beq_iff_eq.mp h10)).2
    rw [← e2] at F
    have ha := soAs es ms G eas h5 h8
    obtain ⟨g1, g2, g3, g4⟩ := kws_ok (env := X.env) (pos := pos) h9
    cases eas with
    | nil => exact absurd h3 (by decide)
    | cons ea eas => exact so_makek G.eK M hcl F hr (G.gl h1) hmg hb h5 h6 h4 (nameOk_db h2) g4 ha (soKs ks G kws h9) g1 g2 (by rw [g3, Bool.or_false]; exact starN h4)
  | .bi1 f x, sc, as, X, G, a, h => by
    have key : ∀ {y : Str} {p pos : Pos} {ea : Expr}, f ≠ .lenset → f ≠ .sortedset → (y == (b1Name f : Str)) = true → glB sc y = true → plainA ea = true → chkE B N lv sc x ea = true → PE X (.Call (.Name y p) [ea] [] pos) (tE C sp (.bi1 f x)) := by
      intro y p pos ea hf hf2 h1 h2 h3 h4
      have e := beq_iff_eq.mp h1
      subst e
      cases f <;> first | exact absurd rfl hf | exact absurd rfl hf2 | exact so_b1 G.eK G.calm hf hf2 (G.gl h2) (G.blt _ (by decide)) rfl (by decide) (by decide) h3 (soB G h4 (soE x G _ h4))
    cases a <;> first | (cases f <;> exact (Bool.false_ne_true h).elim) | skip
    rename_i fn eas kws pos
    cases fn <;> first | (cases f <;> exact (Bool.false_ne_true h).elim) | skip
    rename_i nx px
    match eas, kws, h with
    | [ea], [], h =>
      by_cases hf : f = .lenset
      · subst hf
        obtain ⟨h, h3⟩ := and3 h
        obtain ⟨h1, h2⟩ := and3 h
        have e := beq_iff_eq.mp h1
        subst e
        split at h3
        · rename_i y e2 e
          obtain ⟨p, q, rfl⟩ := oneArg_ok e
          obtain ⟨h, h6⟩ := and3 h3
          obtain ⟨h, h5⟩ := and3 h
          obtain ⟨h3, h4⟩ := and3 h
          have e := beq_iff_eq.mp h3
          subst e
          exact so_lenset G.eK G.calm (G.gl h2) (G.blt _ (by decide)) (G.gl h4) (G.blt _ (by decide)) h5 (soB G h6 (soE x G _ h6))
        · cases h3
      · have h' : (nx == (b1Name f : Str) && (match f with | .lenset => false | .sortedset => false | _ => true) && glB sc nx && plainA ea && chkE B N lv sc x ea) = true := by
          cases f <;> first | exact absurd rfl hf | exact h
        obtain ⟨h, h4⟩ := and3 h'
        obtain ⟨h, h3⟩ := and3 h
        obtain ⟨h, h2⟩ := and3 h
        obtain ⟨h1, h0⟩ := and3 h
        exact key hf (fun z => by subst z; cases h0) h1 h2 h3 h4
    | [], _, h => cases f <;> exact (Bool.false_ne_true h).elim
    | _ :: _ :: _, _, h => cases f <;> exact (Bool.false_ne_true h).elim
    | [_], _ :: _, h => cases f <;> exact (Bool.false_ne_true h).elim
  | .bi2 f x y, sc, as, X, G, a, h => by
    cases a <;> first | (cases f <;> exact (Bool.false_ne_true h).elim) | skip
    rename_i fn eas kws pos
    cases fn <;> first | (cases f <;> exact (Bool.false_ne_true h).elim) | skip
    match eas, kws, h with
    | [ea, eb], [], h =>
      cases f
      · obtain ⟨h, h6⟩ := and3 h
        obtain ⟨h, h5⟩ := and3 h
        obtain ⟨h, h4⟩ := and3 h
        obtain ⟨h, h3⟩ := and3 h
        obtain ⟨h1, h2⟩ := and3 h
        have e := beq_iff_eq.mp h1
        subst e
        exact so_min2 G.calm (G.gl h2) (G.blt _ (by decide)) rfl (by decide) (by decide) h3 h4 (soE x G _ h5) (soE y G _ h6)
      · obtain ⟨h, h6⟩ := and3 h
        obtain ⟨h, h5⟩ := and3 h
        obtain ⟨h, h4⟩ := and3 h
        obtain ⟨h, h3⟩ := and3 h
        obtain ⟨h1, h2⟩ := and3 h
        have e := beq_iff_eq.mp h1
        subst e
        exact so_max2 G.calm (G.gl h2) (G.blt _ (by decide)) rfl (by decide) (by decide) h3 h4 (soE x G _ h5) (soE y G _ h6)
    | [], _, h => cases f <;> exact (Bool.false_ne_true h).elim
    | [_], _, h => cases f <;> exact (Bool.false_ne_true h).elim
    | _ :: _ :: _ :: _, _, h => cases f <;> exact (Bool.false_ne_true h).elim
    | [_, _], _ :: _, h => cases f <;> exact (Bool.false_ne_true h).elim
  | .isi x t, sc, as, X, G, a, h => by
    cases a <;> first | exact (Bool.false_ne_true h).elim | skip
    rename_i fn eas kws pos
    cases fn <;> first | exact (Bool.false_ne_true h).elim | skip
    match eas, kws, h with
    | [ea, et], [], h =>
      obtain ⟨h, h5⟩ := and3 h
      obtain ⟨h, h4⟩ := and3 h
      obtain ⟨h, h3⟩ := and3 h
      obtain ⟨h1, h2⟩ := and3 h
      have e := beq_iff_eq.mp h1
      subst e
      obtain ⟨g1, g2, g3⟩ := soTy G h3
      exact so_isi G.eK G.isi g1 (G.gl h2) (G.blt _ (by decide)) h4 g3 (soB G h5 (soE x G _ h5)) g2
    | [], _, h => exact (Bool.false_ne_true h).elim
    | [_], _, h => exact (Bool.false_ne_true h).elim
    | _ :: _ :: _ :: _, _, h => exact (Bool.false_ne_true h).elim
    | [_, _], _ :: _, h => exact (Bool.false_ne_true h).elim
  | .isiT x t, sc, as, X, G, a, h => by cases a <;> exact (Bool.false_ne_true h).elim
  | .rng x y, sc, as, X, G, a, h => by cases a <;> exact (Bool.false_ne_true h).elim
  | .m1 m x y, sc, as, X, G, a, h => by
    cases a <;> first | (cases m <;> exact (Bool.false_ne_true h).elim) | skip
    rename_i fn eas kws pos
    cases fn <;> first | (cases m <;> exact (Bool.false_ne_true h).elim) | skip
    match eas, kws, h with
    | [eb], [], h =>
      cases m
      · obtain ⟨h, h6⟩ := and3 h
        obtain ⟨h, h5⟩ := and3 h
        obtain ⟨h, h4⟩ := and3 h
        obtain ⟨h, h3⟩ := and3 h
        obtain ⟨h1, h2⟩ := and3 h
        have e := beq_iff_eq.mp h1
        subst e
        exact so_scount G.eK (sup_of h3) h2 h4 (soB G h5 (soE x G _ h5)) (soE y G _ h6)
      · obtain ⟨h, h6⟩ := and3 h
        obtain ⟨h, h5⟩ := and3 h
        obtain ⟨h, h4⟩ := and3 h
        obtain ⟨h, h3⟩ := and3 h
        obtain ⟨h1, h2⟩ := and3 h
        have e := beq_iff_eq.mp h1
        subst e
        exact so_lcount G.eK (sup_of h3) h2 h4 (soB G h5 (soE x G _ h5)) (soE y G _ h6)
      · obtain ⟨h, h6⟩ := and3 h
        obtain ⟨h, h5⟩ := and3 h
        obtain ⟨h, h4⟩ := and3 h
        obtain ⟨h, h3⟩ := and3 h
        obtain ⟨h1, h2⟩ := and3 h
        have e := beq_iff_eq.mp h1
        subst e
        exact so_lindex G.eK (sup_of h3) h2 h4 (soB G h5 (soE x G _ h5)) (soE y G _ h6)
      · obtain ⟨h, h6⟩ := and3 h
        obtain ⟨h, h5⟩ := and3 h
        obtain ⟨h, h4⟩ := and3 h
        obtain ⟨h, h3⟩ := and3 h
        obtain ⟨h1, h2⟩ := and3 h
        have e := beq_iff_eq.mp h1
        subst e
        exact so_join G.eK (sup_of h3) h2 h4 (soB G h5 (soE x G _ h5)) (soE y G _ h6)
      · obtain ⟨h, h6⟩ := and3 h
        obtain ⟨h, h5⟩ := and3 h
        obtain ⟨h, h4⟩ := and3 h
        obtain ⟨h, h3⟩ := and3 h
        obtain ⟨h1, h2⟩ := and3 h
        have e := beq_iff_eq.mp h1
        subst e
        exact so_sindex G.eK (sup_of h3) h2 h4 (soB G h5 (soE x G _ h5)) (soE y G _ h6)
    | [], _, h => cases m <;> exact (Bool.false_ne_true h).elim
    | _ :: _ :: _, _, h => cases m <;> exact (Bool.false_ne_true h).elim
    | [_], _ :: _, h => cases m <;> exact (Bool.false_ne_true h).elim
  | .rng1 x, sc, as, X, G, a, h => by
    cases a <;> first | exact (Bool.false_ne_true h).elim | skip
    rename_i fn eas kws pos
    cases fn <;> first | exact (Bool.false_ne_true h).elim | skip
    match eas, kws, h with
    | [ea], [], h =>
      obtain ⟨h, h4⟩ := and3 h
      obtain ⟨h, h3⟩ := and3 h
      obtain ⟨h1, h2⟩ := and3 h
      have e := beq_iff_eq.mp h1
      subst e
      exact so_rng1 (G.gl h2) (G.blt _ (by decide)) h3 (soE x G _ h4)
    | [], _, h => exact (Bool.false_ne_true h).elim
    | _ :: _ :: _, _, h => exact (Bool.false_ne_true h).elim
    | [_], _ :: _, h => exact (Bool.false_ne_true h).elim
  | .lrng x, sc, as, X, G, a, h => by
    cases a <;> first | exact (Bool.false_ne_true h).elim | skip
    rename_i fn eas kws pos
    cases fn <;> first | exact (Bool.false_ne_true h).elim | skip
    match eas, kws, h with
    | [r], [], h =>
      obtain ⟨h, h3⟩ := and3 h
      obtain ⟨h1, h2⟩ := and3 h
      have e := beq_iff_eq.mp h1
      subst e
      split at h3
      · rename_i y ea e
        obtain ⟨p, q, rfl⟩ := oneArg_ok e
        obtain ⟨h, h6⟩ := and3 h3
        obtain ⟨h, h5⟩ := and3 h
        obtain ⟨h3, h4⟩ := and3 h
        have e := beq_iff_eq.mp h3
        subst e
        exact so_lrng G.calm (G.gl h2) (G.blt _ (by decide)) (G.gl h4) (G.blt _ (by decide)) h5 (soE x G _ h6)
      · cases h3
    | [], _, h => exact (Bool.false_ne_true h).elim
    | _ :: _ :: _, _, h => exact (Bool.false_ne_true h).elim
    | [_], _ :: _, h => exact (Bool.false_ne_true h).elim
  | .lrng2 x z, sc, as, X, G, a, h => by
    cases a <;> first | exact (Bool.false_ne_true h).elim | skip
    rename_i fn eas kws pos
    cases fn <;> first | exact (Bool.false_ne_true h).elim | skip
    match eas, kws, h with
    | [r], [], h =>
      obtain ⟨h, h3⟩ := and3 h
      obtain ⟨h1, h2⟩ := and3 h
      have e := beq_iff_eq.mp h1
      subst e
      split at h3
      · rename_i y ea eb e
        obtain ⟨p, q, rfl⟩ := twoArg_ok e
        obtain ⟨h, h8⟩ := and3 h3
        obtain ⟨h, h7⟩ := and3 h
        obtain ⟨h, h6⟩ := and3 h
        obtain ⟨h, h5⟩ := and3 h
        obtain ⟨h3, h4⟩ := and3 h
        have e := beq_iff_eq.mp h3
        subst e
        exact so_lrng2 G.calm (G.gl h2) (G.blt _ (by decide)) (G.gl h4) (G.blt _ (by decide)) h5 h6 (soE x G _ h7) (soE z G _ h8)
      · cases h3
    | [], _, h => exact (Bool.false_ne_true h).elim
    | _ :: _ :: _, _, h => exact (Bool.false_ne_true h).elim
    | [_], _ :: _, h => exact (Bool.false_ne_true h).elim
  | .comp it tg c e vs, sc, as, X, G, a, h => by
    cases a <;> first | exact (Bool.false_ne_true h).elim | skip
    rename_i elt gs scope pos
    match gs, h with
    | [], h => exact (Bool.false_ne_true h).elim
    | ⟨_, _, _, _⟩ :: ⟨_, _, _, _⟩ :: _, h => exact (Bool.false_ne_true h).elim
    | [⟨etg, iter, ifs, asy⟩], h =>
      obtain ⟨h, h7⟩ := and3 h
      obtain ⟨h, h6⟩ := and3 h
      obtain ⟨h, h5⟩ := and3 h
      obtain ⟨h, h4⟩ := and3 h
      obtain ⟨h, h3⟩ := and3 h
      obtain ⟨h, h2⟩ := and3 h
      obtain ⟨h0, h1⟩ := and3 h
      have e := beq_iff_eq.mp h0
      subst e
      exact so_comp (own_map vs) G.calm (by rw [G.eN]; exact G.nd) (by rw [G.eN, G.eS]; exact blkOk_by h1) (vsAll h3) (soI it true G iter etg h5) (fun s H C' cl fp => soTg tg (G.blk s H scope C' cl fp vs) etg h4)
        (fun s H C' cl fp => soTO c (G.blk s H scope C' cl fp vs) ifs h6) (fun s H C' cl fp => soE e (G.blk s H scope C' cl fp vs) elt h7) (fold_of h2)
  | .comp2 it tg c it1 tg1 c1 e vs vs1, sc, as, X, G, a, h => by
    cases a <;> first | exact (Bool.false_ne_true h).elim | skip
    rename_i elt gs scope pos
    match gs, h with
    | [], h => exact (Bool.false_ne_true h).elim
    | [⟨_, _, _, _⟩], h => exact (Bool.false_ne_true h).elim
    | ⟨_, _, _, _⟩ :: ⟨_, _, _, _⟩ :: _ :: _, h => exact (Bool.false_ne_true h).elim
    | [⟨etg, iter, ifs, asy⟩, ⟨etg1, iter1, ifs1, asy1⟩], h =>
      obtain ⟨h, h13⟩ := and3 h
      obtain ⟨h, h12⟩ := and3 h
      obtain ⟨h, h11⟩ := and3 h
      obtain ⟨h, h10⟩ := and3 h
      obtain ⟨h, h9⟩ := and3 h
      obtain ⟨h, h8⟩ := and3 h
      obtain ⟨h, h7⟩ := and3 h
      obtain ⟨h, h6⟩ := and3 h
      obtain ⟨h, h5⟩ := and3 h
      obtain ⟨h, h4⟩ := and3 h
      obtain ⟨h, h3⟩ := and3 h
      obtain ⟨h, h2⟩ := and3 h
      obtain ⟨h, h1⟩ := and3 h
      obtain ⟨h0, h00⟩ := and3 h
      have e := beq_iff_eq.mp h0
      subst e
      have e := beq_iff_eq.mp h00
      subst e
      exact so_comp2 (own_map vs) G.calm (by rw [G.eN]; exact G.nd) (by rw [G.eN, G.eS]; exact blkOk_by h1) (vsAll h4) (vsAll h5) (vsAll h6) (soI it true G iter etg h9) (fun s H C' cl fp => soTg tg (G.blk s H scope C' cl fp vs) etg h7)
        (fun s H C' cl fp => soTO c (G.blk s H scope C' cl fp vs) ifs h10) (fun s H C' cl fp => soI it1 false (G.blk s H scope C' cl fp vs) iter1 etg1 h11) (fun s H C' cl fp => soTg tg1 (G.blk s H scope C' cl fp vs) etg1 h8)
        (fun s H C' cl fp => soTO c1 (G.blk s H scope C' cl fp vs) ifs1 h12) (fun s H C' cl fp => soE e (G.blk s H scope C' cl fp vs) elt h13) (fold_of h2) (fold_of h3)
theorem soO : ∀ (o : EO) {sc : Scope} {as : List Str} {X : Cx} (G : GX B C sp N lv sc as X) (a : Option Expr), chkO B N lv sc o a = true → PO X a (tEO C sp o)
  | .none, sc, as, X, G, a, h => by
    cases a with
    | none => exact so_eo_none
    | some _ => exact (Bool.false_ne_true h).elim
  | .some e, sc, as, X, G, a, h => by
    cases a with
    | none => exact (Bool.false_ne_true h).elim
    | some a => exact so_eo_some (soE e G a h)
theorem soEs : ∀ (es : Es) {sc : Scope} {as : List Str} {X : Cx} (G : GX B C sp N lv sc as X) (a : List Expr), chkEs B N lv sc es a = true → PA X a (tEs C sp es)
  | .nil, sc, as, X, G, a, h => by
    cases a with
    | nil => exact so_es_nil
    | cons _ _ => exact (Bool.false_ne_true h).elim
  | .cons e es, sc, as, X, G, a, h => by
    cases a with
    | nil => exact (Bool.false_ne_true h).elim
    | cons b bs =>
      obtain ⟨h, h3⟩ := and3 h
      obtain ⟨h1, h2⟩ := and3 h
      exact so_es_cons (star1 h1) (soE e G b h2) (soEs es G bs h3)
theorem soAs : ∀ (es : Es) (ms : List Md) {sc : Scope} {as : List Str} {X : Cx} (G : GX B C sp N lv sc as X) (a : List Expr), noIoB ms = true → chkAs B N lv sc es ms a = true → PA X a (tAs C sp es ms)
  | .nil, ms, sc, as, X, G, a, hn, h => by
    cases ms with
    | cons _ _ => exact (Bool.false_ne_true h).elim
    | nil =>
      cases a with
      | nil => exact sas_nil rfl
      | cons _ _ => exact (Bool.false_ne_true h).elim
  | .cons e es, ms, sc, as, X, G, a, hn, h => by
    cases ms with
    | nil => exact (Bool.false_ne_true h).elim
    | cons m ms =>
      cases a with
      | nil => exact (Bool.false_ne_true h).elim
      | cons b bs =>
        obtain ⟨h, h3⟩ := and3 h
        obtain ⟨h1, h2⟩ := and3 h
        have hm : m ≠ .io ∧ noIoB ms = true := by
          unfold noIoB at hn ⊢
          rw [List.all_cons, Bool.and_eq_true] at hn
          exact ⟨fun z => (by subst z; cases hn.1), hn.2⟩
        exact sas_cons h1 (soA hm.1 G h2 (soE e G b h2)) (soAs es ms G bs hm.2 h3)
theorem soKs : ∀ (es : Es) {sc : Scope} {as : List Str} {X : Cx} (G : GX B C sp N lv sc as X) (a : List Keyword), chkKs B N lv sc es a = true → PK X a (tEs C sp es)
  | .nil, sc, as, X, G, a, h => by
    cases a with
    | nil => exact so_pk_nil
    | cons _ _ => exact (Bool.false_ne_true h).elim
  | .cons e es, sc, as, X, G, a, h => by
    match a, h with
    | [], h => exact (Bool.false_ne_true h).elim
    | ⟨none, _, _⟩ :: _, h => exact (Bool.false_ne_true h).elim
    | ⟨some _, b, _⟩ :: bs, h =>
      obtain ⟨h1, h2⟩ := and3 h
      exact so_pk_cons (soE e G b h1) (soKs es G bs h2)
theorem soT : ∀ (t : T) {sc : Scope} {as : List Str} {X : Cx} (G : GX B C sp N lv sc as X) (a : Expr), chkT B N lv sc t a = true → PT X a (tT C sp t) ∧ (isBO a = true → PW X a (tT C sp t))
  | .not t, sc, as, X, G, a, h => by
    cases a <;> first | exact (Bool.false_ne_true h).elim | skip
    rename_i op _ _
    cases op <;> first | exact (Bool.false_ne_true h).elim | skip
    exact ⟨st_not (soT t G _ h).1, fun z => by cases z⟩
  | .and2 x y, sc, as, X, G, a, h => by
    cases a <;> first | exact (Bool.false_ne_true h).elim | skip
    rename_i op es pos
    cases op <;> first | exact (Bool.false_ne_true h).elim | skip
    match es, h with
    | ea :: eb :: rest, h =>
      obtain ⟨h1, h2⟩ := and3 h
      have q := sw_and2 (soT x G _ h1).1 ((soT y G _ h2).2 rfl)
      exact ⟨q.pt, fun _ => q⟩
    | [], h => exact (Bool.false_ne_true h).elim
    | [_], h => exact (Bool.false_ne_true h).elim
  | .and1 x, sc, as, X, G, a, h => by
    cases a <;> first | exact (Bool.false_ne_true h).elim | skip
    rename_i op es pos
    cases op <;> first | exact (Bool.false_ne_true h).elim | skip
    match es, h with
    | [ea], h =>
      have q := sw_and1 (pos := pos) (soT x G _ h).1
      exact ⟨q.pt, fun _ => q⟩
    | [], h => exact (Bool.false_ne_true h).elim
    | _ :: _ :: _, h => exact (Bool.false_ne_true h).elim
  | .or2 x y, sc, as, X, G, a, h => by
    cases a <;> first | exact (Bool.false_ne_true h).elim | skip
    rename_i op es pos
    cases op <;> first | exact (Bool.false_ne_true h).elim | skip
    match es, h with
    | ea :: eb :: rest, h =>
      obtain ⟨h1, h2⟩ := and3 h
      have q := sw_or2 (soT x G _ h1).1 ((soT y G _ h2).2 rfl)
      exact ⟨q.pt, fun _ => q⟩
    | [], h => exact (Bool.false_ne_true h).elim
    | [_], h => exact (Bool.false_ne_true h).elim
  | .or1 x, sc, as, X, G, a, h => by
    cases a <;> first | exact (Bool.false_ne_true h).elim | skip
    rename_i op es pos
    cases op <;> first | exact (Bool.false_ne_true h).elim | skip
    match es, h with
    | [ea], h =>
      have q := sw_or1 (pos := pos) (soT x G _ h).1
      exact ⟨q.pt, fun _ => q⟩
    | [], h => exact (Bool.false_ne_true h).elim
    | _ :: _ :: _, h => exact (Bool.false_ne_true h).elim
  | .v e, sc, as, X, G, a, h => by
    obtain ⟨h1, h2⟩ := and3 h
    have q := soE e G a h2
    by_cases hc : isCm a = true
    · refine ⟨?_, fun z => by cases a <;> first | (cases z; done) | (cases hc; done)⟩
      cases a <;> first | exact (Bool.false_ne_true hc).elim | skip
      rename_i ea ops es pos
      rcases cmp_shape h2 with ⟨o, x, y, rfl⟩ | ⟨o, o', x, y, z, rfl⟩
      · match ops, es, h2 with
        | [op], [eb], h =>
          obtain ⟨h, h4⟩ := and3 h
          obtain ⟨h, h3⟩ := and3 h
          obtain ⟨h1, h2⟩ := and3 h
          obtain rfl := beq_iff_eq.mp h1
          exact st_cmp G.eK G.hu (marks_of h2) (soB G h3 (soE x G _ h3)) (soB G h4 (soE y G _ h4))
        | [], _, h => exact (Bool.false_ne_true h).elim
        | _ :: _ :: _, _, h => exact (Bool.false_ne_true h).elim
        | [_], [], h => exact (Bool.false_ne_true h).elim
        | [_], _ :: _ :: _, h => exact (Bool.false_ne_true h).elim
      · match ops, es, h2 with
        | [op, op'], [eb, ec], h =>
          obtain ⟨h, h7⟩ := and3 h
          obtain ⟨h, h6⟩ := and3 h
          obtain ⟨h, h5⟩ := and3 h
          obtain ⟨h, h4⟩ := and3 h
          obtain ⟨h, h3⟩ := and3 h
          obtain ⟨h1, h2⟩ := and3 h
          obtain rfl := beq_iff_eq.mp h1
          obtain rfl := beq_iff_eq.mp h2
          exact st_chain G.eK G.hu (last_of h3 h4) (soE x G _ h5) (soE y G _ h6) (soE z G _ h7)
        | [], _, h => exact (Bool.false_ne_true h).elim
        | [_], _, h => exact (Bool.false_ne_true h).elim
        | _ :: _ :: _ :: _, _, h => exact (Bool.false_ne_true h).elim
        | [_, _], [], h => exact (Bool.false_ne_true h).elim
        | [_, _], [_], h => exact (Bool.false_ne_true h).elim
        | [_, _], _ :: _ :: _ :: _, h => exact (Bool.false_ne_true h).elim
    · exact ⟨st_val G.eK (isT_of (by cases a <;> first | rfl | exact absurd rfl hc | exact h1 | (rename_i op _ _; cases op <;> first | rfl | exact h1))) q, fun z => by cases a <;> first | (cases z; done) | (cases h1; done)⟩
theorem soTO : ∀ (t : TO) {sc : Scope} {as : List Str} {X : Cx} (G : GX B C sp N lv sc as X) (a : List Expr), chkTO B N lv sc t a = true → PTs X a (tTO C sp t)
  | .none, sc, as, X, G, a, h => by
    cases a with
    | nil => exact sto_none
    | cons _ _ => exact (Bool.false_ne_true h).elim
  | .some t, sc, as, X, G, a, h => by
    match a, h with
    | [e], h => exact sto_some (soT t G e h).1
    | [], h => exact (Bool.false_ne_true h).elim
    | _ :: _ :: _, h => exact (Bool.false_ne_true h).elim
theorem soI : ∀ (it : It) (b : Bool) {sc : Scope} {as : List Str} {X : Cx} (G : GX B C sp N lv sc as X) (a tg : Expr), chkI B N lv sc it a tg = true → PI X tg a (tI C sp b it)
  | .val e, b, sc, as, X, G, a, tg, h => by
    obtain ⟨h1, h2⟩ := and3 h
    have q := soE e G a h2
    exact si_val G.eK (sx_of q (soB G h2 q))
  | .rng1 x, b, sc, as, X, G, a, tg, h => by
    cases a <;> first | exact (Bool.false_ne_true h).elim | skip
    rename_i fn eas kws pos
    cases fn <;> first | exact (Bool.false_ne_true h).elim | skip
    match eas, kws, h with
    | [ea], [], h =>
      obtain ⟨h, h4⟩ := and3 h
      obtain ⟨h, h3⟩ := and3 h
      obtain ⟨h1, h2⟩ := and3 h
      have e := beq_iff_eq.mp h1
      subst e
      exact si_rng1 (G.gl h2) (G.blt _ (by decide)) h3 (soE x G _ h4)
    | [], _, h => exact (Bool.false_ne_true h).elim
    | _ :: _ :: _, _, h => exact (Bool.false_ne_true h).elim
    | [_], _ :: _, h => exact (Bool.false_ne_true h).elim
  | .rng2 x y, b, sc, as, X, G, a, tg, h => by
    cases a <;> first | exact (Bool.false_ne_true h).elim | skip
    rename_i fn eas kws pos
    cases fn <;> first | exact (Bool.false_ne_true h).elim | skip
    match eas, kws, h with
    | [ea, eb], [], h =>
      obtain ⟨h, h6⟩ := and3 h
      obtain ⟨h, h5⟩ := and3 h
      obtain ⟨h, h4⟩ := and3 h
      obtain ⟨h, h3⟩ := and3 h
      obtain ⟨h1, h2⟩ := and3 h
      have e := beq_iff_eq.mp h1
      subst e
      exact si_rng2 (G.gl h2) (G.blt _ (by decide)) h3 h4 (soE x G _ h5) (soE y G _ h6)
    | [], _, h => exact (Bool.false_ne_true h).elim
    | [_], _, h => exact (Bool.false_ne_true h).elim
    | _ :: _ :: _ :: _, _, h => exact (Bool.false_ne_true h).elim
    | [_, _], _ :: _, h => exact (Bool.false_ne_true h).elim
  | .rng3 x y z, b, sc, as, X, G, a, tg, h => by cases a <;> exact (Bool.false_ne_true h).elim
  | .enum x, b, sc, as, X, G, a, tg, h => by
    cases a <;> first | exact (Bool.false_ne_true h).elim | skip
    rename_i fn eas kws pos
    cases fn <;> first | exact (Bool.false_ne_true h).elim | skip
    match eas, kws, h with
    | [], _, h => exact (Bool.false_ne_true h).elim
    | _ :: _ :: _, _, h => exact (Bool.false_ne_true h).elim
    | [_], _ :: _, h => exact (Bool.false_ne_true h).elim
    | [ea], [], h =>
      obtain ⟨h, h4⟩ := and3 h
      obtain ⟨h, h3⟩ := and3 h
      obtain ⟨h, h2⟩ := and3 h
      obtain ⟨h0, h1⟩ := and3 h
      cases tg <;> first | exact (Bool.false_ne_true h0).elim | skip
      have e := beq_iff_eq.mp h1
      subst e
      have q1 := soE x G _ h4
      exact si_num G.eK (G.gl h2) (G.blt _ (by decide)) h3 (sx_of q1 (soB G h4 q1))
  | .txt x, b, sc, as, X, G, a, tg, h => by cases a <;> exact (Bool.false_ne_true h).elim
  | .zip x y, b, sc, as, X, G, a, tg, h => by
    cases a <;> first | exact (Bool.false_ne_true h).elim | skip
    rename_i fn eas kws pos
    cases fn <;> first | exact (Bool.false_ne_true h).elim | skip
    match eas, kws, h with
    | [], _, h => exact (Bool.false_ne_true h).elim
    | [_], _, h => exact (Bool.false_ne_true h).elim
    | _ :: _ :: _ :: _, _, h => exact (Bool.false_ne_true h).elim
    | [_, _], _ :: _, h => exact (Bool.false_ne_true h).elim
    | [ea, eb], [], h =>
      obtain ⟨h, h6⟩ := and3 h
      obtain ⟨h, h5⟩ := and3 h
      obtain ⟨h, h4⟩ := and3 h
      obtain ⟨h, h3⟩ := and3 h
      obtain ⟨h, h2⟩ := and3 h
      obtain ⟨h0, h1⟩ := and3 h
      cases tg <;> first | exact (Bool.false_ne_true h0).elim | skip
      have e := beq_iff_eq.mp h1
      subst e
      have q1 := soE x G _ h5
      have q2 := soE y G _ h6
      exact si_zip G.eK (G.gl h2) (G.blt _ (by decide)) h3 h4 (sx_of q1 (soB G h5 q1)) (sx_of q2 (soB G h6 q2))
  | .rev x, b, sc, as, X, G, a, tg, h => by
    cases a <;> first | exact (Bool.false_ne_true h).elim | skip
    rename_i fn eas kws pos
    cases fn <;> first | exact (Bool.false_ne_true h).elim | skip
    match eas, kws, h with
    | [ea], [], h =>
      obtain ⟨h, h4⟩ := and3 h
      obtain ⟨h, h3⟩ := and3 h
      obtain ⟨h1, h2⟩ := and3 h
      have e := beq_iff_eq.mp h1
      subst e
      have q1 := soE x G _ h4
      exact si_rev G.eK (G.gl h2) (G.blt _ (by decide)) h3 (sx_of q1 (soB G h4 q1))
    | [], _, h => exact (Bool.false_ne_true h).elim
    | _ :: _ :: _, _, h => exact (Bool.false_ne_true h).elim
    | [_], _ :: _, h => exact (Bool.false_ne_true h).elim
end
end
end Lh
set_option maxHeartbeats 200000
/-! E16: how a statement changes the state. -/
namespace Lh
open PySem PySem.Spec PyProof.Rows L2
section
variable {C : Cn} {cc : CC} {O : Addr → Prop} {env : Env} {σ : L2.St} {H H' : Hp} {fp : Nat → List Addr}
/-- a value that is to be stored -/
theorem SI.newv (I : SI C cc O env σ H fp) {e : E} {p : PV} {v : V} (s : Same H H') (r : Rep C O H' p v) (fr : isFresh e = true → FrL C O H H' p v) :
    ∃ O' f, SI C cc O' env σ H' fp ∧ Ext O H O' H' ∧ SlR C O' H' (mkS e p) (some v) f ∧ OFR C O' H' (mkF e p) v f ∧ f.Nodup ∧ (∀ a ∈ f, O' a) ∧ (∀ a ∈ f, H a = none) ∧ isIo (mkS e p) = false ∧ ∀ a, O a → O' a := by
  have plain : mkS e p = .fz p → mkF e p = .fz p → ∃ O' f, SI C cc O' env σ H' fp ∧ Ext O H O' H' ∧ SlR C O' H' (mkS e p) (some v) f ∧ OFR C O' H' (mkF e p) v f ∧ f.Nodup ∧ (∀ a ∈ f, O' a) ∧ (∀ a ∈ f, H a = none) ∧ isIo (mkS e p) = false ∧ ∀ a, O a → O' a := fun h1 h2 => by
    rw [h1, h2]
    exact ⟨O, [], I.same s, Ext.same s, ⟨v, rfl, r, rfl⟩, ⟨r, rfl⟩, List.nodup_nil, (by simp), (by simp), rfl, fun a o => o⟩
  cases hf : isFresh e with
  | false => exact plain (by unfold mkS; rw [hf]) (by unfold mkF; rw [hf])
  | true =>
    cases p with
    | lst l =>
      obtain ⟨a, vs, rfl, h1, h2, h3⟩ := fr hf l rfl
      have e1 : mkS e (.lst l) = .ow (.lst l) := by unfold mkS; rw [hf]
      have e2 : mkF e (.lst l) = .lst l := by unfold mkF; rw [hf]
      rw [e1, e2]
      have g : ∀ b ∈ [a], H b = none := by simpa using h1
      refine ⟨_, [a], I.grow s g (by simp [h2]), grow_ext I s g, ⟨_, rfl, ⟨a, vs, rfl, h2, h3, rfl⟩, rfl⟩, ⟨a, vs, rfl, h2, h3, rfl⟩, by simp, fun b m => .inr m, g, rfl, fun b o => .inl o⟩
    | int _ => exact plain (by unfold mkS; rw [hf]) (by unfold mkF; rw [hf])
    | bl _ => exact plain (by unfold mkS; rw [hf]) (by unfold mkF; rw [hf])
    | non => exact plain (by unfold mkS; rw [hf]) (by unfold mkF; rw [hf])
    | str _ => exact plain (by unfold mkS; rw [hf]) (by unfold mkF; rw [hf])
    | tup _ => exact plain (by unfold mkS; rw [hf]) (by unfold mkF; rw [hf])
    | ro _ => exact plain (by unfold mkS; rw [hf]) (by unfold mkF; rw [hf])
    | obj _ _ => exact plain (by unfold mkS; rw [hf]) (by unfold mkF; rw [hf])
    | rng _ _ => exact plain (by unfold mkS; rw [hf]) (by unfold mkF; rw [hf])
/-- it is stored -/
theorem SI.store (I : SI C cc O env σ H fp) (Z : ∀ a, cc.Z a) {i : Nat} {s : Slot} {v : V} {f : List Addr} (h : SlR C O H s (some v) f) (hn : f.Nodup) (hd : ∀ j a, j ≠ i → a ∈ fp j → a ∉ f) (hO : ∀ a ∈ f, O a) (hw : ∀ a ∈ f, cc.H0 a = none) (hio : isIo s = false) :
    ∃ fp', SI C cc O (env.set i s) (σ.set i (some v)) H fp' ∧ ∀ j a, a ∈ fp' j → a ∈ fp j ∨ a ∈ f := by
  by_cases hi : i < env.length
  · refine ⟨_, I.put hi h hn hd hO (fun _ => hw) hio (fun a _ => Z a), fun j a m => ?_⟩
    by_cases hj : j = i
    · subst hj; rw [upF_same] at m; exact .inr m
    · rw [upF_ne hj] at m; exact .inl m
  · rw [List.set_eq_of_length_le (by omega), List.set_eq_of_length_le (by rw [← I.len]; omega)]
    exact ⟨fp, I, fun j a m => .inl m⟩
theorem At.asg (A : At C cc O env σ H) (Z : ∀ a, cc.Z a) (i : Nat) {e : E} {p : PV} {v : V} (s : Same H H') (r : Rep C O H' p v) (fr : isFresh e = true → FrL C O H H' p v) :
    ∃ O', At C cc O' (env.set i (mkS e p)) (σ.set i (some v)) H' ∧ Ext O H O' H' := by
  obtain ⟨fp, I⟩ := A.ex
  obtain ⟨O', f, I', ex, h1, _, h2, h3, h4, h5, _⟩ := I.newv s r fr
  obtain ⟨fp', I2, _⟩ := I'.store Z (i := i) h1 h2 (fun j a _ m m' => I.dom a (I.inO j a m) (h4 a m')) h3 (fun a m => I.h0 (h4 a m)) h5
  exact ⟨O', ⟨fp', I2⟩, ex⟩
/-! ### lists that are written -/
/-- the list that is written stands at a -/
def LvP (C : Cn) (l : LV) (σ : L2.St) (H : Hp) (a : Addr) : Prop := match l with
  | .nm i => σ[i]? = some (some (.ref a))
  | .fd i f => ∃ o c dx fs s, σ[i]? = some (some (.ref o)) ∧ H o = some (.ins c dx fs) ∧ C.nm f = some s ∧ fs.lookup s = some (.ref a)
theorem LvP.same (s : Same H H') {l : LV} {a : Addr} (h : LvP C l σ H a) : LvP C l σ H' a := by
  cases l with
  | nm i => exact h
  | fd i f => obtain ⟨o, c, dx, fs, z, h1, h2, h3, h4⟩ := h; exact ⟨o, c, dx, fs, z, h1, s _ _ h2, h3, h4⟩
theorem LvP.inj {l : LV} {a b : Addr} (h : LvP C l σ H a) (k : LvP C l σ H b) : a = b := by
  cases l with
  | nm i =>
    have : some (some (V.ref a)) = some (some (V.ref b)) := h.symm.trans k
    cases this; rfl
  | fd i f =>
    obtain ⟨o, c, dx, fs, z, h1, h2, h3, h4⟩ := h
    obtain ⟨o', c', dx', fs', z', k1, k2, k3, k4⟩ := k
    rw [h1] at k1; cases k1
    rw [h2] at k2; cases k2
    rw [h3] at k3; cases k3
    rw [h4] at k4; cases k4; rfl
theorem lv_nm {i : Nat} {R : List PV → Prop} (h : lvR (.nm i) env R) : ∃ ls s, R ls ∧ env[i]? = some s ∧ (s = .ow (.lst ls) ∨ s = .io (.lst ls)) := by
  simp only [lvR] at h
  split at h
  · rename_i l e; exact ⟨l, _, h, e, .inl rfl⟩
  · rename_i l e; exact ⟨l, _, h, e, .inr rfl⟩
  · exact h.elim
theorem lv_fd {i f : Nat} {R : List PV → Prop} (h : lvR (.fd i f) env R) : ∃ ls c fs s, R ls ∧ env[i]? = some s ∧ (s = .ow (.obj c fs) ∨ s = .io (.obj c fs)) ∧ fs.lookup f = some (.lst ls) := by
  simp only [lvR] at h
  split at h
  · rename_i c fs e
    split at h
    · rename_i l e2; exact ⟨l, c, fs, _, h, e, .inl rfl, e2⟩
    · exact h.elim
  · rename_i c fs e
    split at h
    · rename_i l e2; exact ⟨l, c, fs, _, h, e, .inr rfl, e2⟩
    · exact h.elim
  · exact h.elim
/-- an owned slot -/
theorem SI.own (I : SI C cc O env σ H fp) {i : Nat} {s : Slot} {t : OV} (e : env[i]? = some s) (h : s = .ow t ∨ s = .io t) : ∃ v, σ[i]? = some (some v) ∧ OVR C O H t v (fp i) ∧ isFz t = false ∧ (isOw s = true ∨ isIo s = true) := by
  obtain ⟨x, hx, hs⟩ := slot_of I e
  rcases h with rfl | rfl
  · obtain ⟨v, rfl, h1, h2⟩ := hs; exact ⟨v, hx, h1, h2, .inl rfl⟩
  · obtain ⟨v, rfl, h1, h2⟩ := hs; exact ⟨v, hx, h1, h2, .inr rfl⟩
theorem At.lv (A : At C cc O env σ H) (inj : ∀ i j z, C.nm i = some z → C.nm j = some z → i = j) {l : LV} {s : Str} (hf : ∀ i f, l = .fd i f → C.nm f = some s) {R : List PV → Prop} (h : lvR l env R) : ∃ ls a vs, R ls ∧ LvP C l σ H a ∧ H a = some (.lst vs) ∧ Reps C O H ls vs := by
  obtain ⟨fp, I⟩ := A.ex
  cases l with
  | nm i =>
    obtain ⟨ls, s, r, e, k⟩ := lv_nm h
    obtain ⟨v, hv, ⟨a, vs, rfl, h1, h2, _⟩, _⟩ := I.own e k
    exact ⟨ls, a, vs, r, hv, h1, h2⟩
  | fd i f =>
    obtain ⟨ls, c, fs, s', r, e, k, l⟩ := lv_fd h
    obtain ⟨v, hv, ⟨o, dx, fvs, f1, rfl, h1, h2, h3, _⟩, _⟩ := I.own e k
    obtain ⟨w, f2, q1, _, ⟨a, vs, rfl, q3, q4, _⟩, _⟩ := h3.look inj (hf i f rfl) l
    exact ⟨ls, a, vs, r, ⟨o, _, dx, fvs, s, hv, h1, hf i f rfl, q1⟩, q3, q4⟩
/-- fields, one list of them changed -/
theorem OFs.setl {c f : Nat} {s : Str} (inj : ∀ i j z, C.nm i = some z → C.nm j = some z → i = j) (hf : C.nm f = some s) {a : Addr} {ls ls' : List PV} {vs' : List V} (ex : ∀ b x, b ≠ a → H b = some x → H' b = some x) (hO : O a) (ha : H' a = some (.lst vs')) (hr : Reps C O H' ls' vs') :
    ∀ {fs : List (Nat × OF)} {fvs : List (Str × V)} {g : List Addr}, OFs C O H c fs fvs g → g.Nodup → fs.lookup f = some (.lst ls) → fvs.lookup s = some (.ref a) → OFs C O H' c (putFd fs f (.lst ls')) fvs g
  | [], _, _, _, _, e, _ => by cases e
  | (k, y) :: r, _, _, h, nd, e, e2 => by
    obtain ⟨s', v', t, f1, f2, rfl, rfl, g1, g3, g4⟩ := h
    have E : Ext O H O H' := fun b x n e => ⟨n, ex b x (fun z => n (z ▸ hO)) e⟩
    unfold putFd
    by_cases hk : k = f
    · subst hk
      rw [hf] at g1
      cases g1.1
      rw [List.lookup_cons_self] at e e2
      cases e; cases e2
      obtain ⟨b, vs, q1, q2, q3, q4⟩ := g3
      cases q1
      rw [if_pos rfl]
      refine ⟨s, _, t, f1, f2, rfl, rfl, ⟨hf, g1.2⟩, ⟨a, vs', rfl, ha, hr, q4⟩, g4.ext ⟨E, fun b x m e => ex b x (fun z => ?_) e⟩⟩
      subst z
      rw [q4] at nd
      exact (List.nodup_append.mp nd).2.2 b (by simp) b m rfl
    · rw [if_neg hk]
      have hs : (s == s') = false := by
        rw [beq_eq_false_iff_ne]
        rintro rfl
        exact hk (inj _ _ _ g1.1 hf)
      rw [List.lookup_cons, show (f == k) = false by rw [beq_eq_false_iff_ne]; exact Ne.symm hk] at e
      rw [List.lookup_cons, hs] at e2
      have e2 : t.lookup s = some (.ref a) := e2
      have nd2 := (List.nodup_append.mp nd).2.1
      refine ⟨s', v', t, f1, f2, rfl, rfl, g1, g3.ext ⟨E, fun b x m e' => ex b x (fun z => ?_) e'⟩, OFs.setl inj hf ex hO ha hr g4 nd2 e e2⟩
      subst z
      obtain ⟨w, f3, p1, _, ⟨b', vs, p2, p3, p4, p5⟩, p6⟩ := OFs.look inj hf g4 e
      rw [e2] at p1; cases p1; cases p2
      exact (List.nodup_append.mp nd).2.2 b m b (p6.subset (by rw [p5]; simp)) rfl
/-- the list at a is written -/
theorem At.lvset (A : At C cc O env σ H) (Z : ∀ a, cc.Z a) (inj : ∀ i j z, C.nm i = some z → C.nm j = some z → i = j) {l : LV} {s : Str} (hf : ∀ i f, l = .fd i f → C.nm f = some s) {R : List PV → Prop} (h : lvR l env R) {a : Addr} (hp : LvP C l σ H a) {ls' : List PV} {vs' : List V} (hr : Reps C O H ls' vs') :
    At C cc O (lvSet l env ls') σ (upd H a (.lst vs')) ∧ Ext O H O (upd H a (.lst vs')) := by
  obtain ⟨fp, I⟩ := A.ex
  have keep : ∀ b x, b ≠ a → H b = some x → (upd H a (.lst vs')) b = some x := fun b x n e => by rw [upd_ne n]; exact e
  cases l with
  | nm i =>
    obtain ⟨ls, s, r, e, k⟩ := lv_nm h
    obtain ⟨v, hv, ⟨b, vs, rfl, h1, h2, h3⟩, _, hk⟩ := I.own e k
    have hp : σ[i]? = some (some (.ref a)) := hp
    rw [hv] at hp
    cases hp
    have hO : O a := I.inO i a (by rw [h3]; simp)
    have ex : Ext O H O (upd H a (.lst vs')) := fun b x n e => ⟨n, keep b x (fun z => n (z ▸ hO)) e⟩
    refine ⟨?_, ex⟩
    have : lvSet (.nm i) env ls' = env.set i (putW s (.lst ls')) := by simp only [lvSet]; rw [e]
    rw [this]
    exact ⟨_, I.change e hk hv (fun b x n e => keep b x (fun z => n (by rw [h3, z]; simp)) e) (fun b m => by
      rw [h3] at m; rw [List.mem_singleton.mp m, upd_same]; simp) (t := .lst ls') (f := [a]) ⟨a, vs', rfl, upd_same, hr.ext ex, rfl⟩ rfl (by simp) (fun b m => .inl (by rw [h3]; exact m)) (fun b _ => Z b)⟩
  | fd i f =>
    obtain ⟨ls, c, fs, s', r, e, k, l⟩ := lv_fd h
    obtain ⟨v, hv, ⟨o, dx, fvs, f1, rfl, h1, h2, h3, h4⟩, _, hk⟩ := I.own e k
    obtain ⟨o', c', dx', fs', z, p1, p2, p3, p4⟩ := hp
    rw [hv] at p1; cases p1
    rw [h1] at p2; cases p2
    rw [hf i f rfl] at p3; cases p3
    obtain ⟨w, f2, q1, _, ⟨b, vs, q2, q3, q4, q5⟩, q6⟩ := h3.look inj (hf i f rfl) l
    rw [p4] at q1; cases q1; cases q2
    have ma : a ∈ f1 := q6.subset (by rw [q5]; simp)
    have hO : O a := I.inO i a (by rw [h4]; simp [ma])
    have nd := I.nd i
    rw [h4, List.nodup_cons] at nd
    have ex : Ext O H O (upd H a (.lst vs')) := fun b x n e => ⟨n, keep b x (fun z => n (z ▸ hO)) e⟩
    refine ⟨?_, ex⟩
    have hne : o ≠ a := fun z => nd.1 (z ▸ ma)
    have : lvSet (.fd i f) env ls' = env.set i (putW s' (.obj c (putFd fs f (.lst ls')))) := by
      simp only [lvSet]
      rcases k with rfl | rfl <;> (rw [e]; rfl)
    rw [this]
    refine ⟨_, I.change e hk hv (fun b x n e => keep b x (fun z => n (by rw [h4, z]; simp [ma])) e) (fun b m => ?_) (t := .obj c (putFd fs f (.lst ls'))) (f := o :: f1)
      ⟨o, dx, fvs, f1, rfl, keep o _ hne h1, h2, h3.setl inj (hf i f rfl) keep hO upd_same (hr.ext ex) nd.2 l p4, rfl⟩ rfl (List.nodup_cons.mpr nd) (fun b m => .inl (by rw [h4]; exact m)) (fun b _ => Z b)⟩
    by_cases hb : b = a
    · rw [hb, upd_same]; simp
    · rw [upd_ne hb]
      exact I.dom b (I.inO i b m)
end
end Lh
/-! E17: statements. -/
namespace Lh
open PySem PySem.Spec PyProof.Rows L2
theorem _root_.L2.PS.conv {X : Cx} {e : Stmt} {t t' : TS} (h : PS X e t) (w : ∀ D σ H, t' D σ H → t D σ H) : PS X e t' := ⟨fun pins s σ H D I q => h.run pins s σ H D I (w D σ H q)⟩
theorem _root_.L2.PSs.conv {X : Cx} {e : List Stmt} {t t' : TS} (h : PSs X e t) (w : ∀ D σ H, t' D σ H → t D σ H) : PSs X e t' := ⟨fun pins s σ H D I q => h.run pins s σ H D I (w D σ H q)⟩
section
variable (C : Cn) (sp : SpT)
def Fin (cc : CC) (O : Addr → Prop) (H : Hp) (D : Ends) : R → Prop
  | .nx e => ∀ O' σ' H', At C cc O' e σ' H' → Ext O H O' H' → D.nx σ' H'
  | .bk e => ∀ O' σ' H', At C cc O' e σ' H' → Ext O H O' H' → D.bk σ' H'
  | .ct e => ∀ O' σ' H', At C cc O' e σ' H' → Ext O H O' H' → D.ct σ' H'
  | .rt p e => ∀ O' σ' H' v, At C cc O' e σ' H' → Ext O H O' H' → Rep C O' H' p v → D.rt v H'
  | .ro l e => ∀ O' σ' H' v, At C cc O' e σ' H' → Ext O H O' H' → Rep C O' H' (.lst l) v → FrL C O' cc.H0 H' (.lst l) v → D.rt v H'
def tS (s : S) : TS := fun D σ H => ∃ (cc : CC) (O : Addr → Prop) (env : Env) (P : R → Prop), At C cc O env σ H ∧ (∀ a, cc.Z a) ∧ evS sp s env P ∧ ∀ r, P r → Fin C cc O H D r
def tSs (s : Ss) : TS := fun D σ H => ∃ (cc : CC) (O : Addr → Prop) (env : Env) (P : R → Prop), At C cc O env σ H ∧ (∀ a, cc.Z a) ∧ evSs sp s env P ∧ ∀ r, P r → Fin C cc O H D r
end
section
variable {C : Cn} {sp : SpT} {X : Cx} {pos : Pos}
theorem Fin.mono {cc : CC} {O O1 : Addr → Prop} {H H1 : Hp} {D : Ends} (x : Ext O H O1 H1) {r : R} (f : Fin C cc O H D r) : Fin C cc O1 H1 D r := by
  cases r with
  | nx e => exact fun O' σ' H' a y => f O' σ' H' a (x.trans y)
  | bk e => exact fun O' σ' H' a y => f O' σ' H' a (x.trans y)
  | ct e => exact fun O' σ' H' a y => f O' σ' H' a (x.trans y)
  | rt p e => exact fun O' σ' H' v a y => f O' σ' H' v a (x.trans y)
  | ro p e => exact fun O' σ' H' v a y => f O' σ' H' v a (x.trans y)
theorem ss_nil : PSs X [] (tSs C sp .nil) := pss_nil.conv fun D σ H q => by
  obtain ⟨cc, O, env, P, A, Z, hv, k⟩ := q
  exact k _ hv O σ H A (Ext.refl O H)
theorem ss_cons {s : S} {r : Ss} {st : Stmt} {rest : List Stmt} (h : PS X st (tS C sp s)) (hr : PSs X rest (tSs C sp r)) : PSs X (st :: rest) (tSs C sp (.cons s r)) := (pss_cons h hr).conv fun D σ H q => by
  obtain ⟨cc, O, env, P, A, Z, hv, k⟩ := q
  refine ⟨cc, O, env, _, A, Z, hv, fun r hr => ?_⟩
  cases r with
  | nx e => exact fun O' σ' H' a y => ⟨cc, O', e, P, a, Z, hr, fun r hr => (k r hr).mono y⟩
  | bk e => exact k (.bk e) hr
  | ct e => exact k (.ct e) hr
  | rt p e => exact k (.rt p e) hr
  | ro p e => exact k (.ro p e) hr
theorem ss_frz {i : Nat} {r : Ss} {rest : List Stmt} (hr : PSs X rest (tSs C sp r)) : PSs X rest (tSs C sp (.cons (.frz i) r)) := hr.conv fun D σ H q => by
  obtain ⟨cc, O, env, P, A, Z, hv, k⟩ := q
  simp only [evSs, evS, frzR] at hv
  split at hv
  · rename_i t e
    obtain ⟨fp, I⟩ := A.ex
    exact ⟨cc, _, _, P, ⟨_, I.frz e⟩, Z, hv, fun r hr => (k r hr).mono (ext_sub fun a o => o.1)⟩
  · exact ⟨cc, O, env, P, A, Z, hv, k⟩
  · exact hv.elim
theorem ss_pass : PS X (.Pass pos) (tS C sp .pass) := ps_pass.conv fun D σ H q => by
  obtain ⟨cc, O, env, P, A, Z, hv, k⟩ := q
  exact k _ hv O σ H A (Ext.refl O H)
theorem ss_brk : PS X (.Break pos) (tS C sp .brk) := ps_break.conv fun D σ H q => by
  obtain ⟨cc, O, env, P, A, Z, hv, k⟩ := q
  exact k _ hv O σ H A (Ext.refl O H)
theorem ss_cont : PS X (.Continue pos) (tS C sp .cont) := ps_continue.conv fun D σ H q => by
  obtain ⟨cc, O, env, P, A, Z, hv, k⟩ := q
  exact k _ hv O σ H A (Ext.refl O H)
theorem ss_raise {st : Stmt} : PS X st (tS C sp .raise) := (ps_never (st := st)).conv fun D σ H q => by
  obtain ⟨cc, O, env, P, A, Z, hv, k⟩ := q
  exact hv
theorem ss_ex {e : E} {ea : Expr} (hs : swapsWith ea none pos.line X.env = pure false) (he : PE X ea (tE C sp e)) : PS X (.Expr ea pos) (tS C sp (.ex e)) := (ps_expr he hs).conv fun D σ H q => by
  obtain ⟨cc, O, env, P, A, Z, hv, k⟩ := q
  exact tE_use A hv fun p v H' r s _ _ => k _ r O σ H' (A.same s) (Ext.same s)
theorem ss_ret {e : E} {ea : Expr} (he : PE X ea (tE C sp e)) : PS X (.Return (some ea) pos) (tS C sp (.ret e)) := (ps_ret he).conv fun D σ H q => by
  obtain ⟨cc, O, env, P, A, Z, hv, k⟩ := q
  exact tE_use A hv fun p v H' r s e _ => k _ r O σ H' v (A.same s) (Ext.same s) e
theorem ss_retO {i : Nat} {ea : Expr} (he : PE X ea (tVar i)) : PS X (.Return (some ea) pos) (tS C sp (.retO i)) := (ps_ret he).conv fun D σ H q => by
  obtain ⟨cc, O, env, P, A, Z, hv, k⟩ := q
  simp only [evS, retOR] at hv
  split at hv
  · rename_i l e
    obtain ⟨fp, I⟩ := A.ex
    obtain ⟨x, hx, v, rfl, h1, _⟩ := slot_of I e
    obtain ⟨a, vs, rfl, h2, h3, h4⟩ := h1
    have ma : a ∈ fp i := by rw [h4]; simp
    have ex : Ext O H (fun a => O a ∧ a ∉ fp i) H := ext_sub fun a o => o.1
    refine ⟨_, hx, k _ hv _ σ H (.ref a) ⟨_, I.frz e⟩ ex ⟨a, vs, rfl, ⟨fun o => o.2 ma, h2⟩, h3.ext ex⟩ fun l' e' => ?_⟩
    cases e'
    refine ⟨a, vs, rfl, I.new i _ a e rfl ma, h2, h3.ext (ext_sub fun b o => ?_)⟩
    rcases o with o | o
    · exact o.1
    · rw [List.mem_singleton.mp o]; exact I.inO i a ma
  · exact hv.elim
theorem ss_retF {e : E} {ea : Expr} (he : PE X ea (tE C sp e)) : PS X (.Return (some ea) pos) (tS C sp (.retF e)) := (ps_ret he).conv fun D σ H q => by
  obtain ⟨cc, O, env, P, A, Z, hv, k⟩ := q
  refine tE_use A hv fun p v H' r s e' fr => ?_
  unfold retFR at r
  split at r
  · rename_i l hf
    obtain ⟨fp, I⟩ := A.ex
    refine k _ r O σ H' v (A.same s) (Ext.same s) e' fun l' el => ?_
    obtain ⟨a, vs, e1, e2, e3, e4⟩ := fr hf l' el
    exact ⟨a, vs, e1, I.h0 e2, e3, e4⟩
  · exact r.elim
theorem ss_retN : PS X (.Return none pos) (tS C sp .retN) := ps_retN.conv fun D σ H q => by
  obtain ⟨cc, O, env, P, A, Z, hv, k⟩ := q
  exact k _ hv O σ H .non A (Ext.refl O H) rfl
theorem ss_if {t : T} {a b : Ss} {et : Expr} {as bs : List Stmt} (ht : PT X et (tT C sp t)) (ha : PSs X as (tSs C sp a)) (hb : PSs X bs (tSs C sp b)) : PS X (.If et as bs pos) (tS C sp (.iff t a b)) := (ps_if ht ha hb).conv fun D σ H q => by
  obtain ⟨cc, O, env, P, A, Z, hv, k⟩ := q
  refine ⟨cc, O, env, _, A, hv, fun c H1 r s => ?_⟩
  cases c with
  | true => exact ⟨cc, O, env, P, A.same s, Z, r, fun r hr => (k r hr).mono (Ext.same s)⟩
  | false => exact ⟨cc, O, env, P, A.same s, Z, r, fun r hr => (k r hr).mono (Ext.same s)⟩
theorem asg_read {e : E} {i : Nat} (D : Ends) (σ : L2.St) (H : Hp) (q : tS C sp (.asg i e) D σ H) : tAsg (tE C sp e) (gName i) D σ H := by
  obtain ⟨cc, O, env, P, A, Z, hv, k⟩ := q
  refine tE_use A hv fun p v H' r s e fr => ?_
  obtain ⟨O', A', x⟩ := A.asg Z i s e fr
  exact k _ r O' _ H' A' x
theorem ss_asg {e : E} {i : Nat} {x : Str} {ea : Expr} {px : Pos} (hN : X.N.Nodup) (hi : X.N[i]? = some x) (hx : Loc X.env.scope x) (hf : X.fn x = true ∨ X.env.scope.names.lookup x = some .local) (hs : swapsWith ea (some (.Name x px)) pos.line X.env = pure false) (he : PE X ea (tE C sp e)) :
    PS X (.Assign [.Name x px] ea pos) (tS C sp (.asg i e)) := (ps_set hN hi hx he hs hf).conv asg_read
theorem ss_tgt {e : E} {t : Tg} {tg ea : Expr} (hs : swapsWithSole [tg] ea pos.line X.env = pure false) (hw : swappedStores [tg] ea X.env = pure none) (h1 : (assignEach [tg] X.env).map (·.2) = [assign tg X.env]) (he : PE X ea (tE C sp e)) (hg : PG X tg (tG C t)) :
    PS X (.Assign [tg] ea pos) (tS C sp (.tgt t e)) := (ps_asg he hg hs hw h1).conv fun D σ H q => by
  obtain ⟨cc, O, env, P, A, Z, hv, k⟩ := q
  refine tE_use A hv fun p v H' r s e fr => ?_
  exact ⟨cc, O, env, p, _, A.same s, e, r, fun env' σ' r' A' _ => k _ r' O σ' H' A' (Ext.same s)⟩
theorem ss_par {a b : E} {i j : Nat} {x y : Str} {ea eb : Expr} {px py pt : Pos} {kt k2 pt2} (hc : X.calm = true) (hN : X.N.Nodup) (hi : X.N[i]? = some x) (hj : X.N[j]? = some y) (hij : i ≠ j) (hx : X.env.scope.names.lookup x = some .local) (hy : X.env.scope.names.lookup y = some .local)
    (hw : swappedStores [.Tuple [.Name x px, .Name y py] kt pt] (.Tuple [ea, eb] k2 pt2) X.env = pure (some [x, y])) (hp : plainA ea = true) (hp2 : plainA eb = true) (ha : PE X ea (tE C sp a)) (hb : PE X eb (tE C sp b)) :
    PS X (.Assign [.Tuple [.Name x px, .Name y py] kt pt] (.Tuple [ea, eb] k2 pt2) pos) (tS C sp (.par i j a b)) := (ps_par hc hN hi hj hij hx hy (pa_cons ha (pa_cons hb pa_nil (star1 hp2)) (star1 hp)) hw).conv fun D σ H q => by
  obtain ⟨cc, O, env, P, A, Z, hv, k⟩ := q
  refine tE_use A hv fun p v H1 r1 s1 e1 fr1 => ?_
  obtain ⟨fp, I⟩ := A.ex
  obtain ⟨O1, f1, I1, x1, h1, _, n1, o1, e1', io1, up1⟩ := I.newv s1 e1 fr1
  refine tE_use (At.mk ⟨fp, I1⟩) r1 fun p2 v2 H2 r2 s2 e2 fr2 => ?_
  obtain ⟨O2, f2, I2, x2, h2, _, n2, o2, e2', io2, up2⟩ := I1.newv s2 e2 fr2
  refine ⟨v, v2, rfl, ?_⟩
  have d1 : ∀ j a, a ∈ fp j → a ∉ f1 := fun j a m m' => I.dom a (I.inO j a m) (e1' a m')
  have d2 : ∀ j a, a ∈ fp j → a ∉ f2 := fun j a m m' => I1.dom a (I1.inO j a m) (e2' a m')
  have d3 : ∀ a, a ∈ f1 → a ∉ f2 := fun a m m' => I1.dom a (o1 a m) (e2' a m')
  obtain ⟨fp3, I3, h3⟩ := I2.store Z (i := i) (h1.ext ⟨x2, fun a x _ e => s2 a x e⟩) n1 (fun j a _ m => d1 j a m) (fun a m => up2 a (o1 a m)) (fun a m => I.h0 (e1' a m)) io1
  obtain ⟨fp4, I4, _⟩ := I3.store Z (i := j) h2 n2 (fun j a _ m => by
    rcases h3 j a m with m | m
    · exact d2 j a m
    · exact d3 a m) o2 (fun a m => I1.h0 (e2' a m)) io2
  exact k _ r2 O2 _ H2 ⟨fp4, I4⟩ (x1.trans x2)
/-! loops -/
theorem ss_for {t : Tg} {it : It} {b : Ss} {tg iter : Expr} {body : List Stmt} (hp : PassesOwn (model X.prog X.w) X.A X.env X.xe) (hc : X.calm = true) (hs : ∀ x, foldedSetIterable iter X.env x = pure x) (hi : PI X tg iter (tI C sp false it)) (hg : PG X tg (tG C t)) (hb : PSs X body (tSs C sp b)) :
    PS X (.For tg iter body [] pos) (tS C sp (.for_ t it b)) := (ps_for hp hc hi hg hb hs).conv fun D σ H q => by
  obtain ⟨cc, O, env, P, A, Z, hv, k⟩ := q
  refine ⟨cc, O, env, _, A, hv, fun items J H1 r1 s1 w => ?_⟩
  obtain ⟨G, Y, wk, hG, hY⟩ := w
  let f : PV → Env → (R → Prop) → Prop := fun x env k => bindT t x env fun env' => evSs sp b env' k
  let N : Nat → L2.St → Hp → Prop := fun i σ' H' => ∃ O' env', At C cc O' env' σ' H' ∧ Ext O H1 O' H' ∧ forL f (items.drop i) env' P
  refine ⟨fun i m σ' H' => m = items.length - i ∧ i ≤ items.length ∧ N i σ' H', ⟨items.length, by simp, Nat.zero_le _, O, env, A.same s1, Ext.refl _ _, r1⟩, ?_⟩
  rintro i m σ1 H2 ⟨rfl, hi, O1, env1, A1, x1, hf⟩
  have per : Per false O H1 O1 H2 := ⟨x1, fun z => nomatch z⟩
  have g := hG _ _ per
  by_cases hlt : i < items.length
  · refine .inr ⟨wk.goes i H2 hlt g, N (i + 1), fun σ' H' p' => ⟨items.length - (i + 1), by omega, rfl, hlt, p'⟩, fun x H3 y => ?_⟩
    obtain ⟨s3, p, ep, hr⟩ := hY i _ H2 x H3 hlt per A1.dom (wk.yields i H2 x H3 hlt g y)
    have hd : items.drop i = p :: items.drop (i + 1) := by
      rw [List.drop_eq_getElem_cons hlt]
      rw [List.getElem?_eq_getElem hlt] at ep
      rw [Option.some.inj ep]
    rw [hd] at hf
    have x3 := x1.trans (Ext.same s3)
    refine ⟨cc, O1, env1, p, _, A1.same s3, hr, hf, fun env2 σ2 r2 A2 _ => ?_⟩
    refine ⟨cc, O1, env2, _, A2, Z, r2, fun r hr => ?_⟩
    cases r with
    | nx e => exact fun O' σ' H' a y => ⟨O', e, a, x3.trans y, hr⟩
    | ct e => exact fun O' σ' H' a y => ⟨O', e, a, x3.trans y, hr⟩
    | bk e => exact fun O' σ' H' a y => k _ hr O' σ' H' a ((Ext.same s1).trans (x3.trans y))
    | rt p e => exact fun O' σ' H' v a y => k _ hr O' σ' H' v a ((Ext.same s1).trans (x3.trans y))
    | ro p e => exact fun O' σ' H' v a y => k _ hr O' σ' H' v a ((Ext.same s1).trans (x3.trans y))
  · have e : i = items.length := by omega
    subst e
    rw [List.drop_length] at hf
    exact .inl ⟨wk.stops H2 g, k _ hf O1 σ1 H2 A1 ((Ext.same s1).trans x1)⟩
theorem ss_while {t : T} {b : Ss} {et : Expr} {body : List Stmt} (hp : PassesOwn (model X.prog X.w) X.A X.env X.xe) (ht : PT X et (tT C sp t)) (hb : PSs X body (tSs C sp b)) : PS X (.While et body [] pos) (tS C sp (.whil t b)) := (ps_while hp ht hb).conv fun D σ H q => by
  obtain ⟨cc, O, env, P, A, Z, hv, k⟩ := q
  obtain ⟨W, ⟨m0, w0⟩, step⟩ := hv
  let N : Nat → L2.St → Hp → Prop := fun m σ' H' => ∃ O' env', At C cc O' env' σ' H' ∧ Ext O H O' H' ∧ W m env'
  refine ⟨N, ⟨m0, O, env, A, Ext.refl _ _, w0⟩, ?_⟩
  rintro m σ1 H1 ⟨O1, env1, A1, x1, w1⟩
  refine ⟨cc, O1, env1, _, A1, step m env1 w1, fun c H2 r s => ?_⟩
  have x2 := x1.trans (Ext.same s)
  cases c with
  | true =>
    rw [if_pos rfl] at r
    change if true = true then _ else _
    rw [if_pos rfl]
    refine ⟨fun σ' H' => ∃ m', m' < m ∧ N m' σ' H', fun σ' H' z => z, cc, O1, env1, _, A1.same s, Z, r, fun r hr => ?_⟩
    cases r with
    | nx e => exact fun O' σ' H' a y => by obtain ⟨m', h1, h2⟩ := hr; exact ⟨m', h1, O', e, a, x2.trans y, h2⟩
    | ct e => exact fun O' σ' H' a y => by obtain ⟨m', h1, h2⟩ := hr; exact ⟨m', h1, O', e, a, x2.trans y, h2⟩
    | bk e => exact fun O' σ' H' a y => k _ hr O' σ' H' a (x2.trans y)
    | rt p e => exact fun O' σ' H' v a y => k _ hr O' σ' H' v a (x2.trans y)
    | ro p e => exact fun O' σ' H' v a y => k _ hr O' σ' H' v a (x2.trans y)
  | false =>
    rw [if_neg Bool.false_ne_true] at r
    change if false = true then _ else _
    rw [if_neg Bool.false_ne_true]
    exact k _ r O1 σ1 H2 (A1.same s) x2
end
end Lh
/-! E18: statements that write lists and fields. -/
namespace Lh
open PySem PySem.Spec PyProof.Rows L2
section
variable {C : Cn} {sp : SpT} {X : Cx} {pos : Pos}
/-- the list that is written -/
def tLv (C : Cn) (l : LV) : TE := fun σ H Q => ∃ cc O env R, At C cc O env σ H ∧ lvR l env R ∧ ∀ a, LvP C l σ H a → Q (.ref a) H
theorem pl_nm (inj : ∀ i j z, C.nm i = some z → C.nm j = some z → i = j) {i : Nat} {ea : Expr} (h : PE X ea (tVar i)) : PE X ea (tLv C (.nm i)) := h.conv fun σ H Q q => by
  obtain ⟨cc, O, env, R, A, hv, k⟩ := q
  obtain ⟨ls, a, vs, r, hp, _⟩ := A.lv (s := "") inj (fun _ _ z => by cases z) hv
  exact ⟨_, hp, k a hp⟩
theorem pl_fd (inj : ∀ i j z, C.nm i = some z → C.nm j = some z → i = j) {i f : Nat} {s : Str} {ea : Expr} {p : Pos} (hK : X.K = C.K) (hf : C.nm f = some s) (hb : attributeBase ea s X.env (eval ea X.env) = eval ea X.env) (h : PE X ea (tVar i)) : PE X (.Attribute ea s p) (tLv C (.fd i f)) := (pe_fld h hb).conv fun σ H Q q => by
  obtain ⟨cc, O, env, R, A, hv, k⟩ := q
  obtain ⟨fp, I⟩ := A.ex
  obtain ⟨ls, c, fs, s', r, e, ko, l⟩ := lv_fd hv
  obtain ⟨v, hv, ⟨o, dx, fvs, f1, rfl, h1, h2, h3, _⟩, _⟩ := I.own e ko
  obtain ⟨w, f2, q1, q2, ⟨a, vs, rfl, q3, q4, _⟩, _⟩ := h3.look inj hf l
  exact ⟨_, hv, o, _, dx, fvs, _, rfl, h1, by rw [hK]; exact h2.2, by rw [hK]; exact q2, q1, k a ⟨o, _, dx, fvs, s, hv, h1, hf, q1⟩⟩
theorem sub_asg {o i : Expr} {p : Pos} (h : plainIx i = true) : ∀ v, assign (.Subscript o i p) X.env v = (do
      let ov ← holding [v] (eval o X.env)
      let iv ← holding [v, ov] (eval i X.env)
      standAt p
      holding [v, ov, iv] (setItem ov iv v)
      release [v, ov, iv] []) := by
  intro v
  cases i <;> first | rfl | cases h
theorem sub_aug {i : Expr} (h : plainIx i = true) : ∀ ov iv new, augStore i ov iv new = (do holding [new, ov, iv] (setItem ov iv new); release [new, ov, iv] []; pure .next) := by
  intro ov iv new
  cases i <;> first | rfl | cases h
theorem sole_sub {o i ea : Expr} {p : Pos} {n : Nat} : swapsWithSole [.Subscript o i p] ea n X.env = pure false := by cases ea <;> rfl
/-- what a write needs -/
structure LvOk (C : Cn) (l : LV) : Prop where
  inj : ∀ i j z, C.nm i = some z → C.nm j = some z → i = j
  nm : ∃ s, ∀ i f, l = .fd i f → C.nm f = some s
theorem ss_setix {l : LV} {k e : E} {el ek ea : Expr} {p : Pos} (L : LvOk C l) (hi : plainIx ek = true) (hl : PE X el (tLv C l)) (hk : PE X ek (tE C sp k)) (he : PE X ea (tE C sp e)) : PS X (.Assign [.Subscript el ek p] ea pos) (tS C sp (.setix l k e)) :=
  (ps_asg he (pg_sub hl hk set_list (sub_asg hi)) sole_sub rfl rfl).conv fun D σ H q => by
    obtain ⟨cc, O, env, P, A, Z, hv, kk⟩ := q
    obtain ⟨s, hs⟩ := L.nm
    refine tE_use A hv fun v vx H1 r1 s1 e1 _ => ?_
    have A1 := A.same s1
    obtain ⟨ls, a, vs, r2, hp, ha, hr⟩ := A1.lv L.inj hs r1
    refine ⟨cc, O, env, _, A1, r1, fun b hb => ?_⟩
    have eb := hb.inj hp
    subst eb
    refine tE_use A1 r2 fun y vy H2 r3 s2 e2 _ => ?_
    cases y <;> first | exact r3.elim | skip
    rename_i n _
    obtain ⟨j, hj, r3⟩ := r3
    cases e2
    refine ⟨b, vs, n, j, rfl, rfl, s2 _ _ ha, ?_, ?_⟩
    · rw [hr.length, ← pyIx_eq]; exact hj
    · obtain ⟨A3, x3⟩ := (A1.same s2).lvset Z L.inj hs r1 (hp.same s2) ((hr.ext (Ext.same s2)).set (e1.ext (Ext.same s2)) j)
      exact kk _ r3 _ _ _ A3 (((Ext.same s1).trans (Ext.same s2)).trans x3)
theorem ss_setix2 {l l' : LV} {k k' e : E} {el ek el' ek' ea : Expr} {p p' : Pos} (L : LvOk C l) (L' : LvOk C l') (hi : plainIx ek = true) (hi' : plainIx ek' = true) (hl : PE X el (tLv C l)) (hk : PE X ek (tE C sp k)) (hl' : PE X el' (tLv C l')) (hk' : PE X ek' (tE C sp k')) (he : PE X ea (tE C sp e)) :
    PS X (.Assign [.Subscript el ek p, .Subscript el' ek' p'] ea pos) (tS C sp (.setix2 l k l' k' e)) :=
  (ps_asg2 he (pg_sub hl hk set_list (sub_asg hi)) (pg_sub hl' hk' set_list (sub_asg hi')) rfl (by cases ea <;> rfl)).conv fun D σ H q => by
    obtain ⟨cc, O, env, P, A, Z, hv, kk⟩ := q
    obtain ⟨s, hs⟩ := L.nm
    obtain ⟨s', hs'⟩ := L'.nm
    refine tE_use A hv fun v vx H1 r1 s1 e1 _ => ?_
    have A1 := A.same s1
    obtain ⟨ls, a, vs, r2, hp, ha, hr⟩ := A1.lv L.inj hs r1
    refine ⟨cc, O, env, _, A1, r1, fun b hb => ?_⟩
    have eb := hb.inj hp
    subst eb
    refine tE_use A1 r2 fun y vy H2 r3 s2 e2 _ => ?_
    cases y <;> first | exact r3.elim | skip
    rename_i n _
    obtain ⟨j, hj, r3⟩ := r3
    cases e2
    refine ⟨b, vs, n, j, rfl, rfl, s2 _ _ ha, ?_, ?_⟩
    · rw [hr.length, ← pyIx_eq]; exact hj
    obtain ⟨A3, x3⟩ := (A1.same s2).lvset Z L.inj hs r1 (hp.same s2) ((hr.ext (Ext.same s2)).set (e1.ext (Ext.same s2)) j)
    have e3 := (e1.ext (Ext.same s2)).ext x3
    obtain ⟨ls', a', vs', r4, hp', ha', hr'⟩ := A3.lv L'.inj hs' r3
    refine ⟨cc, O, _, _, A3, r3, fun b hb => ?_⟩
    have eb := hb.inj hp'
    subst eb
    refine tE_use A3 r4 fun y vy H4 r5 s4 e4 _ => ?_
    cases y <;> first | exact r5.elim | skip
    rename_i n' _
    obtain ⟨j', hj', r5⟩ := r5
    cases e4
    refine ⟨b, vs', n', j', rfl, rfl, s4 _ _ ha', ?_, ?_⟩
    · rw [hr'.length, ← pyIx_eq]; exact hj'
    · obtain ⟨A5, x5⟩ := (A3.same s4).lvset Z L'.inj hs' r3 (hp'.same s4) ((hr'.ext (Ext.same s4)).set (e3.ext (Ext.same s4)) j')
      exact kk _ r5 _ _ _ A5 (((((Ext.same s1).trans (Ext.same s2)).trans x3).trans (Ext.same s4)).trans x5)
/-! augmented -/
def rGetL : V → V → Hp → VK → Prop := fun x y H Q => ∃ p xs i j v, x = .ref p ∧ y = .int i ∧ H p = some (.lst xs) ∧ ixN xs.length i = some j ∧ xs[j]? = some v ∧ Q v H
theorem get_list : PGet X rGetL := by
  intro pins s σ H x y v u Q I rx ry h
  obtain ⟨p, xs, i, j0, z, rfl, rfl, hq, hj0, hz0, q⟩ := h
  cases rx
  obtain ⟨t, rfl⟩ := ry
  obtain ⟨its, r, pl, hz⟩ := I.list (SqL.of hq)
  obtain ⟨j, h1, h2, h3, h4, h5⟩ := atI_get (atI_of (k := j0) (by rw [pyIx_eq]; exact hj0) hz0)
  obtain ⟨w, ew, rw'⟩ := r.get h2
  have hl := r.length
  have hn := line63
  have fin : EP X pins σ Q w s := ⟨z, H, I, rw', q⟩
  by_cases h0 : 0 ≤ i
  · have hj : i.toNat = j := by
      rw [seqIndex_of h0 h5] at h1
      exact Option.some.inj h1
    exact wpAny_getItem_list pl.isList h0 (by omega) (by rw [hj]; simpa using ew) fin
  · have hj : (i + (its.toArray.size : Int)).toNat = j := by
      rw [seqIndex_neg (by omega) h4] at h1
      rw [List.size_toArray, ← hl]
      exact Option.some.inj h1
    exact wpAny_getItem_list_neg pl.isList (by omega) (by rw [List.size_toArray] <;> omega) (by omega) (by rw [hj]; simpa using ew) fin
def rAug (o : BOp) : TIp := fun x y H Q => match o with
  | .add => ipI (fun i j => i + j) x y H Q ∨ ∃ s t : Str, x = .str s ∧ y = .str t ∧ s.length + t.length ≤ sizeLine ∧ Q (.str (s ++ t)) H
  | .sub => ipI (fun i j => i - j) x y H Q
  | _ => False
theorem ip_aug (o : BOp) : PIp X (bopOf o) (rAug o) := by
  cases o with
  | add =>
    intro pins s σ H x y v u Q I r1 r2 h
    rcases h with h | ⟨a, b, rfl, rfl, hl, q⟩
    · exact ip_add pins s σ H x y v u Q I r1 r2 h
    · obtain ⟨t, rfl⟩ := r1
      obtain ⟨t', rfl⟩ := r2
      exact iadd_str (fun t' k => ⟨.str _, H, I.tok _, ⟨_, rfl⟩, q⟩) hl
  | sub => exact fun pins s σ H x y v u Q I r1 r2 h => ip_sub pins s σ H x y v u Q I r1 r2 h
  | mul => exact fun pins s σ H x y v u Q I r1 r2 h => h.elim
  | fdiv => exact fun pins s σ H x y v u Q I r1 r2 h => h.elim
  | mod => exact fun pins s σ H x y v u Q I r1 r2 h => h.elim
  | pow => exact fun pins s σ H x y v u Q I r1 r2 h => h.elim
theorem augR_ok {O : Addr → Prop} {H : Hp} {o : BOp} {x y : PV} {vx vy : V} {R : PV → Prop} {Q : VK} (hx : Rep C O H x vx) (hy : Rep C O H y vy) (h : augR o x y R) (k : ∀ p v, R p → Rep C O H p v → Q v H) : rAug o vx vy H Q := by
  cases o <;> first | exact h.elim | skip
  · cases x <;> first | exact h.elim | skip
    · cases y <;> first | exact h.elim | skip
      cases hx; cases hy
      exact .inl ⟨_, _, rfl, rfl, k _ _ h rfl⟩
    · cases y <;> first | exact h.elim | skip
      cases hx; cases hy
      obtain ⟨h1, h2⟩ := h
      refine .inr ⟨_, _, rfl, rfl, by rw [str_len, str_len, szl]; exact h1, ?_⟩
      rw [str_app]
      exact k _ _ h2 rfl
  · cases x <;> first | exact h.elim | skip
    cases y <;> first | exact h.elim | skip
    cases hx; cases hy
    exact ⟨_, _, rfl, rfl, k _ _ h rfl⟩
theorem no_itup : typeLookup (.type "tuple") (dunderI "add") = pure none := by rw [typeLookup_type, builtinLookup_eq_fast]; kernel_rfl
theorem icat_tup {prog : Program} {w : World} {A : Around} {E : Value → Shared → Prop} {s : Shared} {t b : Addr} {vs ws : List Value} {Q : Value → Shared → Prop} (ht : IsTup s.heap t vs.toArray) (hb : IsTup s.heap b ws.toArray)
    (h0 : vs = [] → Q (.ref b) s) (h1 : vs ≠ [] → ws = [] → Q (.ref t) s) (h2 : vs ≠ [] → ws ≠ [] → Q (.ref s.heap.objs.size) { s with heap := s.heap.push { cls := .type "tuple", data := .seq (vs ++ ws).toArray } })
    (hsz : vs.length + ws.length ≤ sizeLine) : wpAny (model prog w) A (inplaceOp .Add (.ref t) (.ref b)) Q E s := by
  obtain ⟨⟨cls, dd, data, sl⟩, ho, hc, n, hd⟩ := id ht
  obtain ⟨⟨cls2, dd2, data2, sl2⟩, ho2, hc2, n2, hd2⟩ := id hb
  simp only at hc hd hc2 hd2
  subst hc hd hc2 hd2
  have e : vs.toArray ++ ws.toArray = (vs ++ ws).toArray := by simp
  by_cases hv : vs = []
  · subst hv
    exact wpAny_inplaceOp_concat ⟨_, ho, rfl⟩ ⟨_, ho2, rfl⟩ no_itup noFill_tuple_add seq_tuple_add (call_meets PySem.F.slot_tuple_add ⟨_, ho, rfl⟩ PySem.F.entry_tuple_add (PySem.F.args_tuple_add_2 _ _)
      (tuple_addW0 t b ([] : List Value).toArray ws.toArray n n2 dd dd2 sl sl2 (by simp)) ⟨ho, ho2, h0 rfl⟩)
  · by_cases hw : ws = []
    · exact wpAny_inplaceOp_concat ⟨_, ho, rfl⟩ ⟨_, ho2, rfl⟩ no_itup noFill_tuple_add seq_tuple_add (call_meets PySem.F.slot_tuple_add ⟨_, ho, rfl⟩ PySem.F.entry_tuple_add (PySem.F.args_tuple_add_2 _ _)
        (tuple_addW1 t b vs.toArray ws.toArray n n2 dd dd2 sl sl2 (by simpa using hv) (by simp [hw])) ⟨ho, ho2, h1 hv hw⟩)
    · refine wpAny_inplaceOp_concat ⟨_, ho, rfl⟩ ⟨_, ho2, rfl⟩ no_itup noFill_tuple_add seq_tuple_add (call_meets PySem.F.slot_tuple_add ⟨_, ho, rfl⟩ PySem.F.entry_tuple_add (PySem.F.args_tuple_add_2 _ _)
        (tuple_addW2 t b vs.toArray ws.toArray n n2 dd dd2 sl sl2 (by simpa using hv) (by simpa using hw) (by rw [List.size_toArray, List.size_toArray]; exact hsz)) ⟨ho, ho2, ?_⟩)
      rw [e]
      exact h2 hv hw
def rAugV (K : PySem.W.Frag) (o : BOp) : TIp := fun x y H Q => rAug o x y H Q ∨ (o = .add ∧ rCatA K x y H Q)
theorem ip_augV (o : BOp) : PIp X (bopOf o) (rAugV X.K o) := by
  intro pins s σ H x y v u Q I rx ry h
  rcases h with h | ⟨rfl, h⟩
  · exact ip_aug o pins s σ H x y v u Q I rx ry h
  · obtain ⟨a, b, xs, ys, rfl, rfl, ha, hb, hz, q0, q1, q2⟩ := h
    cases rx
    cases ry
    obtain ⟨its, r1, p1, _⟩ := I.tuple ha
    obtain ⟨its2, r2, p2, _⟩ := I.tuple hb
    refine icat_tup p1 p2 (fun z => ⟨.ref b, H, I, rfl, q0 (r1.nil_iff.mp z)⟩) (fun z z' => ⟨.ref a, H, I, rfl, q1 (fun z2 => z (r1.nil_iff.mpr z2)) (r2.nil_iff.mp z')⟩) (fun z z' => ?_) (by rw [← r1.length, ← r2.length]; exact hz)
    refine ⟨.ref s.heap.objs.size, _, I.laid (t' := s.toks) (o := .tup (xs ++ ys)) (fun b ob q => Heap.get?_push_of_some _ q) (Nat.le_refl _) ?_, rfl, q2 (fun w => z (r1.nil_iff.mpr w)) (fun w => z' (r2.nil_iff.mpr w)) _ (I.hok.fresh (Nat.le_refl _))⟩
    exact ⟨by rw [List.length_append]; exact hz, _, r1.append r2, IsTup.new _ _⟩
theorem augvR_ok {O : Addr → Prop} {H : Hp} {o : BOp} {x y : PV} {vx vy : V} {R : PV → Prop} {Q : VK} (d : DomO O H) (hx : Rep C O H x vx) (hy : Rep C O H y vy) (h : augvR o x y R) (k : ∀ p v H', R p → Same H H' → Rep C O H' p v → Q v H') : rAugV C.K o vx vy H Q := by
  unfold augvR at h
  split at h
  · rename_i l m
    refine .inr ⟨rfl, ?_⟩
    obtain ⟨h0, h⟩ := h
    obtain ⟨a, vs, e, h1, h2⟩ := hx
    obtain ⟨b, ws, e', h1', h2'⟩ := hy
    have l1 := h2.length
    have l2 := h2'.length
    have kk : Kt C O H R Q := fun p v H' r s e _ => k p v H' r s e
    refine ⟨a, b, vs, ws, e, e', sqT_of h1, sqT_of h1', by rw [l1, l2, szl]; exact h0, fun z => ?_, fun _ z => ?_, fun _ _ => kk.tup d h (h2.append h2')⟩
    · subst z
      refine k _ _ _ h (Same.refl H) ?_
      rw [reps_nil h2]
      exact ⟨b, ws, rfl, h1', h2'⟩
    · subst z
      refine k _ _ _ h (Same.refl H) ?_
      rw [reps_nil h2', List.append_nil]
      exact ⟨a, vs, rfl, h1, h2⟩
  · exact .inl (augR_ok hx hy h fun p v r e => k p v H r (Same.refl H) e)
theorem ss_augv {i : Nat} {o : BOp} {e : E} {x : Str} {ea : Expr} {px : Pos} (hK : X.K = C.K) (hN : X.N.Nodup) (hi : X.N[i]? = some x) (hx : Loc X.env.scope x) (hf : X.fn x = true ∨ X.env.scope.names.lookup x = some .local) (he : PE X ea (tE C sp e)) :
    PS X (.AugAssign (.Name x px) (bopOf o) ea pos) (tS C sp (.augv i o e)) := (ps_aug hN hi hx he (ip_augV o) hf).conv fun D σ H q => by
  obtain ⟨cc, O, env, P, A, Z, hv, k⟩ := q
  simp only [evS, rdF] at hv
  split at hv
  · rename_i p e1
    obtain ⟨fp, I⟩ := A.ex
    obtain ⟨x, hx, v, rfl, hr, _⟩ := slot_of I e1
    refine ⟨v, hx, ?_⟩
    refine tE_use A hv fun y vy H1 r1 s1 e2 _ => ?_
    rw [hK]
    exact augvR_ok (A.dom.same s1) (hr.ext (Ext.same s1)) e2 r1 fun z vz H2 r2 s2 e3 => k _ r2 O _ H2 (((A.same s1).same s2).set i e3) (Ext.same (s1.trans s2))
  · exact hv.elim
theorem ss_augix {l : LV} {o : BOp} {k e : E} {el ek ea : Expr} {p : Pos} (L : LvOk C l) (hi : plainIx ek = true) (hl : PE X el (tLv C l)) (hk : PE X ek (tE C sp k)) (he : PE X ea (tE C sp e)) :
    PS X (.AugAssign (.Subscript el ek p) (bopOf o) ea pos) (tS C sp (.augix l k o e)) := (ps_augS hl hk get_list he (ip_aug o) set_list (sub_aug hi)).conv fun D σ H q => by
  obtain ⟨cc, O, env, P, A, Z, hv, kk⟩ := q
  obtain ⟨s, hs⟩ := L.nm
  obtain ⟨ls, a, vs, r2, hp, ha, hr⟩ := A.lv L.inj hs hv
  refine ⟨cc, O, env, _, A, hv, fun b hb => ?_⟩
  have eb := hb.inj hp
  subst eb
  refine tE_use A r2 fun y vy H2 r3 s2 e2 _ => ?_
  cases y <;> first | exact r3.elim | skip
  rename_i n _
  obtain ⟨j, z, hj, hz, r3⟩ := r3
  cases e2
  have hj' : ixN vs.length n = some j := by rw [hr.length, ← pyIx_eq]; exact hj
  obtain ⟨w, hw, ew⟩ := (hr.ext (Ext.same s2)).get hz
  refine ⟨b, vs, n, j, w, rfl, rfl, s2 _ _ ha, hj', hw, ?_⟩
  refine tE_use (A.same s2) r3 fun v vx H3 r4 s3 e3 _ => ?_
  refine augR_ok (ew.ext (Ext.same s3)) e3 r4 fun u vu r5 e5 => ?_
  have s23 := s2.trans s3
  obtain ⟨A3, x3⟩ := (A.same s23).lvset Z L.inj hs hv (hp.same s23) ((hr.ext (Ext.same s23)).set e5 j)
  exact ⟨b, vs, n, j, rfl, rfl, s23 _ _ ha, hj', kk _ r5 _ _ _ A3 ((Ext.same s23).trans x3)⟩
/-! methods of lists -/
def muK : Mu → V → List V → Hp → VK → Prop
  | .append => rAppend | .pop => rPop | .popat => rPopAt | .clear => rClear
  | .insert => fun x vs H Q => ∃ (l : Addr) (xs : List V) (i : Int) (y : V), x = .ref l ∧ vs = [.int i, y] ∧ H l = some (.lst xs) ∧ xs.length < sizeLine ∧ 0 ≤ i ∧ i < 2 ^ 63 ∧ Q .non (upd H l (.lst (xs.take i.toNat ++ [y] ++ xs.drop i.toNat)))
  | .remove => rRemI
theorem mu_slot (m : Mu) : PySem.Slot "list" ((muT m).1 : Str) (muT m).2 ∧ typeOf (.builtin (muT m).2) = pure (.type "method_descriptor") := by
  cases m with
  | append => exact ⟨PySem.F.slot_list_append, PySem.F.type_list_append⟩
  | insert => exact ⟨PySem.F.slot_list_insert, PySem.F.type_list_insert⟩
  | pop => exact ⟨PySem.F.slot_list_pop, PySem.F.type_list_pop⟩
  | popat => exact ⟨PySem.F.slot_list_pop, PySem.F.type_list_pop⟩
  | clear => exact ⟨PySem.F.slot_list_clear, PySem.F.type_list_clear⟩
  | remove => exact ⟨PySem.F.slot_list_remove, PySem.F.type_list_remove⟩
theorem mu_mt (m : Mu) : MtR X (muT m).2 (muK m) := by
  cases m with
  | append => exact mt_append
  | insert => exact mt_insert
  | pop => exact mt_pop
  | popat => exact mt_popAt
  | clear => exact mt_clear
  | remove => exact mt_remove
theorem seqIx_eq {n : Nat} {i : Int} {k : Nat} (h : pyIx n i = some k) : seqIndex? i n = some k := by
  rw [pyIx_eq] at h
  exact (ixN_seq h).1
/-- what a method does -/
theorem mu_ok {m : Mu} {O : Addr → Prop} {H : Hp} {a : Addr} {vs : List V} {ls ps : List PV} {ws : List V} {R : List PV → PV → Prop} {Q : VK} (ha : H a = some (.lst vs)) (hr : Reps C O H ls vs) (hw : Reps C O H ps ws) (h : muR m ls ps R)
    (k : ∀ ls' vs' p v, R ls' p → Reps C O H ls' vs' → Q v (upd H a (.lst vs'))) : muK m (.ref a) ws H Q := by
  cases m with
  | append =>
    match ps, hw, h with
    | [y], hw, h =>
      obtain ⟨v, r, rfl, h1, h2⟩ := hw
      cases h2
      refine ⟨a, vs, v, rfl, rfl, ha, by rw [hr.length, szl]; exact h.1, k _ _ _ _ h.2 (hr.append (show Reps C O H [y] [v] from ⟨v, [], rfl, h1, rfl⟩))⟩
    | [], _, h => exact h.elim
    | _ :: _ :: _, _, h => exact h.elim
  | insert =>
    match ps, hw, h with
    | [.int i, y], hw, h =>
      obtain ⟨v, r, rfl, h1, v2, r2, rfl, h2, h3⟩ := hw
      cases h1; cases h3
      exact ⟨a, vs, i, v2, rfl, rfl, ha, by rw [hr.length, szl]; exact h.1.1, h.1.2.1, h.1.2.2, k _ _ _ _ h.2 (((hr.take _).append (show Reps C O H [y] [v2] from ⟨v2, [], rfl, h2, rfl⟩)).append (hr.drop _))⟩
    | [], _, h => exact h.elim
    | [_], _, h => simp [muR] at h
    | _ :: _ :: _ :: _, _, h => simp [muR] at h
    | [.bl _, _], _, h => exact h.elim
    | [.non, _], _, h => exact h.elim
    | [.str _, _], _, h => exact h.elim
    | [.tup _, _], _, h => exact h.elim
    | [.lst _, _], _, h => exact h.elim
    | [.ro _, _], _, h => exact h.elim
    | [.obj _ _, _], _, h => exact h.elim
    | [.rng _ _, _], _, h => exact h.elim
  | pop =>
    match ps, hw, h with
    | [], hw, h =>
      cases hw
      obtain ⟨y, h1, h2⟩ := h
      obtain ⟨w, h3, h4⟩ := hr.get h1
      exact ⟨a, vs, w, rfl, rfl, ha, by rw [hr.length]; exact h3, k _ _ _ _ h2 hr.dropLast⟩
    | _ :: _, _, h => exact h.elim
  | popat =>
    match ps, hw, h with
    | [.int i], hw, h =>
      obtain ⟨v, r, rfl, h1, h2⟩ := hw
      cases h1; cases h2
      obtain ⟨j, y, h1, h2, h3, h4⟩ := h
      obtain ⟨w, h5, h6⟩ := hr.get h3
      exact ⟨a, vs, i, j, w, rfl, rfl, ha, h1.1, h1.2, seqIx_eq (by rw [hr.length]; exact h2), h5, k _ _ _ _ h4 (hr.eraseIdx j)⟩
    | [], _, h => exact h.elim
    | _ :: _ :: _, _, h => simp [muR] at h
    | [.bl _], _, h => exact h.elim
    | [.non], _, h => exact h.elim
    | [.str _], _, h => exact h.elim
    | [.tup _], _, h => exact h.elim
    | [.lst _], _, h => exact h.elim
    | [.ro _], _, h => exact h.elim
    | [.obj _ _], _, h => exact h.elim
    | [.rng _ _], _, h => exact h.elim
  | clear =>
    match ps, hw, h with
    | [], hw, h =>
      cases hw
      exact ⟨a, vs, rfl, rfl, ha, k [] [] _ _ h rfl⟩
    | _ :: _, _, h => exact h.elim
  | remove => simp [muR] at h
theorem starN' {as : List Expr} {env : PySem.Env} {cpos : Pos} (h : as.all plainA = true) (hn : as.length < 25) : ((backTo cpos (starEach as env)).all (fun x => !x.1) && (backToKw cpos (keywordEach [] env)).all (fun x => x.1.isSome)
      && decide (as.length + ([] : List Keyword).length + (if ([] : List Keyword).isEmpty then 0 else 1) < 30)) = true := by
  rw [starAll h]
  have : decide (as.length + ([] : List Keyword).length + (if ([] : List Keyword).isEmpty then 0 else 1) < 30) = true := by
    simp
    omega
  rw [this]; rfl
theorem mu_conv {m : Mu} {l : LV} {es : Es} (L : LvOk C l) {D : Ends} {σ : L2.St} {H : Hp} (hK : X.K = C.K) (q : tS C sp (.mu m l es) D σ H) :
    tLv C l σ H fun x H1 => tyV X.K "list" x H1 ∧ tEs C sp es σ H1 fun xs H2 => muK m x xs H2 fun _ H3 => D.nx σ H3 := by
  obtain ⟨cc, O, env, P, A, Z, hv, kk⟩ := q
  obtain ⟨s, hs⟩ := L.nm
  obtain ⟨ls, a, vs, r2, hp, ha, hr⟩ := A.lv L.inj hs hv
  refine ⟨cc, O, env, _, A, hv, fun b hb => ?_⟩
  have eb := hb.inj hp
  subst eb
  refine ⟨.inl ⟨rfl, vs, .inl (.inl ha)⟩, cc, O, env, _, A, r2, fun ps ws H2 r3 s2 e2 _ => ?_⟩
  refine mu_ok (s2 _ _ ha) (hr.ext (Ext.same s2)) e2 r3 fun ls' vs' p v r4 e4 => ?_
  obtain ⟨A3, x3⟩ := (A.same s2).lvset Z L.inj hs hv (hp.same s2) e4
  exact kk _ r4 _ _ _ A3 ((Ext.same s2).trans x3)
theorem ss_mu {m : Mu} {l : LV} {es : Es} {el a : Expr} {as : List Expr} {apos cpos : Pos} {nm : Str} (hnm : nm = ((muT m).1 : Str)) (L : LvOk C l) (hK : X.K = C.K) (hb : attributeBase el nm X.env (eval el X.env) = eval el X.env) (hline : (apos.endLine == cpos.line) = true) (hp : (a :: as).all plainA = true) (hn : (a :: as).length < 25)
    (hl : PE X el (tLv C l)) (ha : PA X (a :: as) (tEs C sp es)) : PS X (.Expr (.Call (.Attribute el nm apos) (a :: as) [] cpos) pos) (tS C sp (.mu m l es)) := by
  subst hnm
  have hp1 : plainA a = true := by rw [List.all_cons, Bool.and_eq_true] at hp; exact hp.1
  have hp2 : as.all plainA = true := by rw [List.all_cons, Bool.and_eq_true] at hp; exact hp.2
  exact (ps_expr (pe_bm PySem.F.plainAttrs_list (mu_slot m).1 (mu_slot m).2 (mu_mt m) hl ha hb (starN' hp hn) hline (star1 hp1) (starN hp2)) rfl).conv fun D σ H q => mu_conv L hK q
theorem ss_mu0 {m : Mu} {l : LV} {el : Expr} {apos cpos : Pos} {nm : Str} (hnm : nm = ((muT m).1 : Str)) (L : LvOk C l) (hK : X.K = C.K) (hb : attributeBase el nm X.env (eval el X.env) = eval el X.env) (hline : (apos.endLine == cpos.line) = true)
    (hl : PE X el (tLv C l)) : PS X (.Expr (.Call (.Attribute el nm apos) [] [] cpos) pos) (tS C sp (.mu m l .nil)) := by
  subst hnm
  refine (ps_expr (pe_bm0 PySem.F.plainAttrs_list (mu_slot m).1 (mu_slot m).2 (mu_mt m) hl hb hline) rfl).conv fun D σ H q => ?_
  obtain ⟨cc, O, env, R, A, hv, k⟩ := mu_conv L hK q
  refine ⟨cc, O, env, R, A, hv, fun a h => ?_⟩
  obtain ⟨h1, cc', O', env', R', A', hv', k'⟩ := k a h
  exact ⟨h1, k' [] [] H hv' (Same.refl H) rfl rfl⟩
end
end Lh
/-! E19: calls that change what they are given. -/
namespace Lh
open PySem PySem.Spec PyProof.Rows L2
theorem nodup_mem {f : List Addr} : ∀ {fs : List (List Addr)}, fs.flatten.Nodup → f ∈ fs → f.Nodup
  | [], _, m => by cases m
  | g :: gs, n, m => by
    rw [List.flatten_cons, List.nodup_append] at n
    rcases List.mem_cons.mp m with rfl | m
    · exact n.1
    · exact nodup_mem n.2.1 m
/-- the slots that are given away to be changed -/
def ioVars : Es → List Md → List Nat
  | .nil, _ => []
  | .cons _ _, [] => []
  | .cons (.var i) es, .io :: ms => i :: ioVars es ms
  | .cons _ es, _ :: ms => ioVars es ms
/-- the footprints behind the call -/
def wrF : Es → List Md → List (List Addr) → (Nat → List Addr) → (Nat → List Addr)
  | .nil, _, _, fp => fp
  | .cons _ _, [], _, fp => fp
  | .cons (.var i) es, .io :: ms, f :: fs, fp => wrF es ms fs (upF fp i f)
  | .cons _ es, _ :: ms, _ :: fs, fp => wrF es ms fs fp
  | .cons _ _, _ :: _, [], fp => fp
def VarR (σ : L2.St) : Es → List Md → List V → Prop
  | .nil, _, _ => True
  | .cons _ _, [], _ => True
  | .cons (.var i) es, .io :: ms, v :: vs => σ[i]? = some (some v) ∧ VarR σ es ms vs
  | .cons _ es, _ :: ms, _ :: vs => VarR σ es ms vs
  | .cons _ _, _ :: _, [] => True
/-- the three shapes of an argument -/
theorem arg_shape (e : E) (m : Md) : (∃ i, e = .var i ∧ m = .io) ∨ (m ≠ .io) ∨ (m = .io ∧ ∀ i, e ≠ .var i) := by
  cases m with
  | va => exact .inr (.inl fun z => nomatch z)
  | bo => exact .inr (.inl fun z => nomatch z)
  | io =>
    by_cases h : ∃ i, e = .var i
    · obtain ⟨i, rfl⟩ := h; exact .inl ⟨i, rfl, rfl⟩
    · exact .inr (.inr ⟨rfl, fun i z => h ⟨i, z⟩⟩)
theorem ioB_skip {e : E} {es : Es} {m : Md} {ms : List Md} {env : Env} (hm : m ≠ .io) : ioB (.cons e es) (m :: ms) env = ioB es ms env := by
  cases m <;> first | exact absurd rfl hm | (cases e <;> rfl)
theorem wrB_skip {e : E} {es : Es} {m : Md} {ms : List Md} {os : List OV} {env : Env} (hm : m ≠ .io) : wrB (.cons e es) (m :: ms) os env = wrB es ms os env := by
  cases m <;> first | exact absurd rfl hm | (cases e <;> rfl)
theorem ioVars_skip {e : E} {es : Es} {m : Md} {ms : List Md} (hm : m ≠ .io) : ioVars (.cons e es) (m :: ms) = ioVars es ms := by
  cases m <;> first | exact absurd rfl hm | (cases e <;> rfl)
theorem wrF_skip {e : E} {es : Es} {m : Md} {ms : List Md} {f : List Addr} {fs : List (List Addr)} {fp : Nat → List Addr} (hm : m ≠ .io) : wrF (.cons e es) (m :: ms) (f :: fs) fp = wrF es ms fs fp := by
  cases m <;> first | exact absurd rfl hm | (cases e <;> rfl)
theorem varR_skip {σ : L2.St} {e : E} {es : Es} {m : Md} {ms : List Md} {v : V} {vs : List V} (hm : m ≠ .io) : VarR σ (.cons e es) (m :: ms) (v :: vs) = VarR σ es ms vs := by
  cases m <;> first | exact absurd rfl hm | (cases e <;> rfl)
theorem ioB_no {e : E} {es : Es} {ms : List Md} {env : Env} (he : ∀ i, e ≠ .var i) (h : ioB (.cons e es) (.io :: ms) env = true) : False := by
  cases e <;> first | exact absurd rfl (he _) | cases h
theorem ioB_var {i : Nat} {es : Es} {ms : List Md} {env : Env} (h : ioB (.cons (.var i) es) (.io :: ms) env = true) : (∃ s, env[i]? = some s ∧ ioS s = true) ∧ ioB es ms env = true := by
  simp only [ioB] at h
  obtain ⟨h1, h2⟩ := and3 h
  refine ⟨?_, h2⟩
  split at h1
  · rename_i s e; exact ⟨s, e, h1⟩
  · cases h1
theorem ioB_congr {env env1 : Env} : ∀ {es : Es} {ms : List Md}, (∀ k ∈ ioVars es ms, env1[k]? = env[k]?) → ioB es ms env = true → ioB es ms env1 = true
  | .nil, _, _, _ => rfl
  | .cons _ _, [], _, _ => by unfold ioB; rfl
  | .cons e es, m :: ms, h, k => by
    rcases arg_shape e m with ⟨i, rfl, rfl⟩ | hm | ⟨rfl, he⟩
    · obtain ⟨⟨s, e1, h1⟩, h2⟩ := ioB_var k
      have h' := ioB_congr (es := es) (ms := ms) (fun k m => h k (by simp [ioVars, m])) h2
      simp only [ioB, h', h i (by simp [ioVars]), e1, h1, Bool.and_self]
    · rw [ioB_skip hm] at k ⊢
      exact ioB_congr (fun k m => h k (by rw [ioVars_skip hm]; exact m)) k
    · exact (ioB_no he k).elim
/-- what is not given away stays -/
theorem wr_not {k : Nat} : ∀ {es : Es} {ms : List Md} {os : List OV} {fs : List (List Addr)} {env env' : Env} {fp : Nat → List Addr}, wrB es ms os env = some env' → k ∉ ioVars es ms → env'[k]? = env[k]? ∧ wrF es ms fs fp k = fp k ∧ env'.length = env.length
  | .nil, _, os, fs, env, env', fp, h, n => by
    cases os with
    | nil => cases h; exact ⟨rfl, rfl, rfl⟩
    | cons _ _ => cases h
  | .cons _ _, [], os, fs, env, env', fp, h, n => by simp [wrB] at h
  | .cons e es, m :: ms, os, fs, env, env', fp, h, n => by
    rcases arg_shape e m with ⟨i, rfl, rfl⟩ | hm | ⟨rfl, he⟩
    · cases os with
      | nil => simp [wrB] at h
      | cons t os =>
        simp only [wrB] at h
        split at h
        · rename_i s e1
          have nk : k ≠ i := fun z => n (by simp [ioVars, z])
          have n' : k ∉ ioVars es ms := fun z => n (by simp [ioVars, z])
          cases fs with
          | nil =>
            obtain ⟨h1, h2, h3⟩ := wr_not (fs := []) (fp := fp) h n'
            exact ⟨by rw [h1, List.getElem?_set_ne (Ne.symm nk)], rfl, by rw [h3, List.length_set]⟩
          | cons f fs =>
            obtain ⟨h1, h2, h3⟩ := wr_not (fs := fs) (fp := upF fp i f) h n'
            refine ⟨by rw [h1, List.getElem?_set_ne (Ne.symm nk)], ?_, by rw [h3, List.length_set]⟩
            show wrF es ms fs (upF fp i f) k = fp k
            rw [h2, upF_ne nk]
        · cases h
    · rw [wrB_skip hm] at h
      rw [ioVars_skip hm] at n
      cases fs with
      | nil =>
        obtain ⟨h1, h2, h3⟩ := wr_not (fs := []) (fp := fp) h n
        refine ⟨h1, ?_, h3⟩
        cases m <;> first | exact absurd rfl hm | (cases e <;> rfl)
      | cons f fs => rw [wrF_skip hm]; exact wr_not h n
    · cases e <;> first | exact absurd rfl (he _) | (simp [wrB] at h)
/-- what is given away comes back -/
theorem wr_in {C : Cn} {O' : Addr → Prop} {H' : Hp} {σ : L2.St} {k : Nat} : ∀ {es : Es} {ms : List Md} {os : List OV} {vs : List V} {fs : List (List Addr)} {env env' : Env} {fp : Nat → List Addr}, wrB es ms os env = some env' → ioB es ms env = true → OutsR C O' H' ms os vs fs → VarR σ es ms vs → (ioVars es ms).Nodup → k ∈ ioVars es ms →
    ∃ s t v f, env[k]? = some s ∧ ioS s = true ∧ env'[k]? = some (putW s t) ∧ σ[k]? = some (some v) ∧ OVR C O' H' t v f ∧ isFz t = false ∧ wrF es ms fs fp k = f ∧ f ∈ fs
  | .nil, _, _, _, _, _, _, _, _, _, _, _, _, n => by cases n
  | .cons _ _, [], _, _, _, _, _, _, h, _, _, _, _, n => by simp [ioVars] at n
  | .cons e es, m :: ms, os, vs, fs, env, env', fp, h, hb, ho, hv, nd, n => by
    rcases arg_shape e m with ⟨i, rfl, rfl⟩ | hm | ⟨rfl, he⟩
    · obtain ⟨o, os', v, vs', f, fs', rfl, rfl, rfl, ⟨h1, h2⟩, h3⟩ := ho
      obtain ⟨⟨s, e1, g1⟩, g2⟩ := ioB_var hb
      simp only [wrB, e1] at h
      obtain ⟨v1, v2⟩ := hv
      have nd' : i ∉ ioVars es ms ∧ (ioVars es ms).Nodup := by simpa [ioVars] using nd
      have hi : i < env.length := (List.getElem?_eq_some_iff.mp e1).1
      by_cases hk : k = i
      · subst hk
        obtain ⟨q1, q2, _⟩ := wr_not (fs := fs') (fp := upF fp k f) h nd'.1
        refine ⟨s, o, v, f, e1, g1, ?_, v1, h1, h2, ?_, by simp⟩
        · rw [q1, List.getElem?_set_self hi]
        · show wrF es ms fs' (upF fp k f) k = f
          rw [q2, upF_same]
      · have n' : k ∈ ioVars es ms := by
          rcases List.mem_cons.mp (show k ∈ i :: ioVars es ms from n) with z | z
          · exact absurd z hk
          · exact z
        have gb : ioB es ms (env.set i (putW s o)) = true := ioB_congr (fun k m => List.getElem?_set_ne fun (z : i = k) => nd'.1 (by rw [z]; exact m)) g2
        obtain ⟨s', t, w, g, p1, p2, p3, p4, p5, p6, p7, p8⟩ := wr_in (fp := upF fp i f) h gb h3 v2 nd'.2 n'
        exact ⟨s', t, w, g, by rw [← p1, List.getElem?_set_ne (Ne.symm hk)], p2, p3, p4, p5, p6, p7, List.mem_cons_of_mem _ p8⟩
    · rw [wrB_skip hm] at h
      rw [ioVars_skip hm] at n nd
      rw [ioB_skip hm] at hb
      have : ∃ v vs' fs', vs = v :: vs' ∧ fs = [] :: fs' ∧ OutsR C O' H' ms os vs' fs' := by
        cases m <;> first | exact absurd rfl hm | exact ho
      obtain ⟨v, vs', fs', rfl, rfl, h3⟩ := this
      rw [varR_skip hm] at hv
      obtain ⟨s', t, w, g, p1, p2, p3, p4, p5, p6, p7, p8⟩ := wr_in (fp := fp) h hb h3 hv nd n
      exact ⟨s', t, w, g, p1, p2, p3, p4, p5, p6, by rw [wrF_skip hm]; exact p7, List.mem_cons_of_mem _ p8⟩
    · exact (ioB_no he hb).elim
/-- the footprints of what comes back are apart -/
theorem wr_dis {C : Cn} {O' : Addr → Prop} {H' : Hp} {σ : L2.St} {k j : Nat} {a : Addr} (hkj : k ≠ j) : ∀ {es : Es} {ms : List Md} {os : List OV} {vs : List V} {fs : List (List Addr)} {env env' : Env} {fp : Nat → List Addr}, wrB es ms os env = some env' → ioB es ms env = true → OutsR C O' H' ms os vs fs → VarR σ es ms vs → (ioVars es ms).Nodup → fs.flatten.Nodup → k ∈ ioVars es ms → j ∈ ioVars es ms →
    a ∈ wrF es ms fs fp k → a ∉ wrF es ms fs fp j
  | .nil, _, _, _, _, _, _, _, _, _, _, _, _, _, n, _ => by cases n
  | .cons _ _, [], _, _, _, _, _, _, h, _, _, _, _, _, n, _ => by simp [ioVars] at n
  | .cons e es, m :: ms, os, vs, fs, env, env', fp, h, hb, ho, hv, nd, fn, n, n2 => by
    rcases arg_shape e m with ⟨i, rfl, rfl⟩ | hm | ⟨rfl, he⟩
    · obtain ⟨o, os', v, vs', f, fs', rfl, rfl, rfl, ⟨h1, h2⟩, h3⟩ := ho
      obtain ⟨⟨s, e1, g1⟩, g2⟩ := ioB_var hb
      simp only [wrB, e1] at h
      obtain ⟨v1, v2⟩ := hv
      have nd' : i ∉ ioVars es ms ∧ (ioVars es ms).Nodup := by simpa [ioVars] using nd
      have gb : ioB es ms (env.set i (putW s o)) = true := ioB_congr (fun k m => List.getElem?_set_ne fun (z : i = k) => nd'.1 (by rw [z]; exact m)) g2
      have q2 := (wr_not (fs := fs') (fp := upF fp i f) h nd'.1).2.1
      rw [List.flatten_cons, List.nodup_append] at fn
      show a ∈ wrF es ms fs' (upF fp i f) k → a ∉ wrF es ms fs' (upF fp i f) j
      have inr : ∀ x, x ≠ i → x ∈ ioVars (.cons (.var i) es) (.io :: ms) → x ∈ ioVars es ms := fun x hx hm => by
        rcases List.mem_cons.mp (show x ∈ i :: ioVars es ms from hm) with z | z
        · exact absurd z hx
        · exact z
      by_cases hk : k = i
      · subst hk
        obtain ⟨_, _, _, _, _, _, _, _, _, _, p7, p8⟩ := wr_in (fp := upF fp k f) h gb h3 v2 nd'.2 (inr j (Ne.symm hkj) n2)
        rw [q2, upF_same, p7]
        exact fun m1 m2 => fn.2.2 a m1 a (List.mem_flatten.mpr ⟨_, p8, m2⟩) rfl
      · by_cases hj : j = i
        · subst hj
          obtain ⟨_, _, _, _, _, _, _, _, _, _, p7, p8⟩ := wr_in (fp := upF fp j f) h gb h3 v2 nd'.2 (inr k hkj n)
          rw [q2, upF_same, p7]
          exact fun m1 m2 => fn.2.2 a m2 a (List.mem_flatten.mpr ⟨_, p8, m1⟩) rfl
        · exact wr_dis hkj h gb h3 v2 nd'.2 fn.2.1 (inr k hk n) (inr j hj n2)
    · rw [wrB_skip hm] at h
      rw [ioVars_skip hm] at n nd n2
      rw [ioB_skip hm] at hb
      have : ∃ v vs' fs', vs = v :: vs' ∧ fs = [] :: fs' ∧ OutsR C O' H' ms os vs' fs' := by
        cases m <;> first | exact absurd rfl hm | exact ho
      obtain ⟨v, vs', fs', rfl, rfl, h3⟩ := this
      rw [varR_skip hm] at hv
      rw [wrF_skip hm]
      exact wr_dis hkj h hb h3 hv nd (by simpa using fn) n n2
    · exact (ioB_no he hb).elim
/-- what may be changed lies in the slots that are given away -/
theorem io_in {fp : Nat → List Addr} {env : Env} {a : Addr} : ∀ {es : Es} {ms : List Md} {fs : List (List Addr)}, FpR fp (keysOf es ms) fs → ioB es ms env = true → IoF ms fs a → ∃ i ∈ ioVars es ms, a ∈ fp i
  | .nil, ms, fs, hf, hb, h => by
    cases hf
    cases ms with
    | nil => exact h.elim
    | cons m ms => cases m <;> exact h.elim
  | .cons _ _, [], fs, hf, hb, h => h.elim
  | .cons e es, m :: ms, fs, hf, hb, h => by
    rcases arg_shape e m with ⟨i, rfl, rfl⟩ | hm | ⟨rfl, he⟩
    · obtain ⟨f, fs', rfl, h0, h1⟩ := hf
      rcases h with h | h
      · exact ⟨i, by simp [ioVars], h0.2 a h⟩
      · obtain ⟨j, q1, q2⟩ := io_in h1 (ioB_var hb).2 h
        exact ⟨j, by simp [ioVars, q1], q2⟩
    · rw [ioB_skip hm] at hb
      rw [ioVars_skip hm]
      have tail : ∃ f fs', fs = f :: fs' ∧ FpR fp (keysOf es ms) fs' := by
        have hf' : FpR fp (keyOf m e :: keysOf es ms) fs := hf
        cases hk : keyOf m e with
        | none => rw [hk] at hf'; obtain ⟨fs', rfl, q⟩ := hf'; exact ⟨[], fs', rfl, q⟩
        | some j => rw [hk] at hf'; obtain ⟨f, fs', rfl, _, q⟩ := hf'; exact ⟨f, fs', rfl, q⟩
      obtain ⟨f, fs', rfl, q⟩ := tail
      have h' : IoF ms fs' a := by cases m <;> first | exact absurd rfl hm | exact h
      exact io_in q hb h'
    · exact (ioB_no he hb).elim
/-- position by position -/
theorem wr_sub {fp0 : Nat → List Addr} {H : Hp} {k : Nat} {a : Addr} : ∀ {es : Es} {ms : List Md} {os : List OV} {fs fs' : List (List Addr)} {env env' : Env}, FpR fp0 (keysOf es ms) fs → SubL H fs fs' → wrB es ms os env = some env' → ioB es ms env = true → (ioVars es ms).Nodup → k ∈ ioVars es ms → ∀ {fp : Nat → List Addr}, a ∈ wrF es ms fs' fp k → a ∈ fp0 k ∨ H a = none
  | .nil, _, _, _, _, _, _, _, _, _, _, _, n, _, _ => by simp [ioVars] at n
  | .cons _ _, [], _, _, _, _, _, _, _, _, _, _, n, _, _ => by simp [ioVars] at n
  | .cons e es, m :: ms, os, fs, fs', env, env', hf, sb, h, hb, nd, n, fp, ha => by
    rcases arg_shape e m with ⟨i, rfl, rfl⟩ | hm | ⟨rfl, he⟩
    · obtain ⟨f, fs1, rfl, h0, h1⟩ := hf
      cases fs' with
      | nil => exact sb.elim
      | cons g gs =>
        obtain ⟨⟨s, e1, g1⟩, g2⟩ := ioB_var hb
        cases os with
        | nil => simp [wrB] at h
        | cons o os =>
          simp only [wrB, e1] at h
          have nd' : i ∉ ioVars es ms ∧ (ioVars es ms).Nodup := by simpa [ioVars] using nd
          have ha : a ∈ wrF es ms gs (upF fp i g) k := ha
          by_cases hk : k = i
          · subst hk
            rw [(wr_not (fs := gs) (fp := upF fp k g) h nd'.1).2.1, upF_same] at ha
            exact (sb.1 a ha).imp (h0.2 a) id
          · have n' : k ∈ ioVars es ms := by
              rcases List.mem_cons.mp (show k ∈ i :: ioVars es ms from n) with z | z
              · exact absurd z hk
              · exact z
            exact wr_sub h1 sb.2 h (ioB_congr (fun k m => List.getElem?_set_ne fun (z : i = k) => nd'.1 (by rw [z]; exact m)) g2) nd'.2 n' ha
    · rw [ioB_skip hm] at hb
      rw [wrB_skip hm] at h
      rw [ioVars_skip hm] at n nd
      have tail : ∃ f fs1, fs = f :: fs1 ∧ FpR fp0 (keysOf es ms) fs1 := by
        have hf' : FpR fp0 (keyOf m e :: keysOf es ms) fs := hf
        cases hk : keyOf m e with
        | none => rw [hk] at hf'; obtain ⟨fs', rfl, q⟩ := hf'; exact ⟨[], fs', rfl, q⟩
        | some j => rw [hk] at hf'; obtain ⟨f, fs', rfl, _, q⟩ := hf'; exact ⟨f, fs', rfl, q⟩
      obtain ⟨f, fs1, rfl, q⟩ := tail
      cases fs' with
      | nil => exact sb.elim
      | cons g gs =>
        rw [wrF_skip hm] at ha
        exact wr_sub q sb.2 h hb nd n ha
    · exact (ioB_no he hb).elim
theorem ioVars_nd : ∀ {es : Es} {ms : List Md}, noDup (keysOf es ms) = true → (∀ i ∈ ioVars es ms, some i ∈ keysOf es ms) ∧ (ioVars es ms).Nodup
  | .nil, _, _ => ⟨fun i m => by simp [ioVars] at m, by simp [ioVars]⟩
  | .cons _ _, [], _ => ⟨fun i m => by simp [ioVars] at m, by simp [ioVars]⟩
  | .cons e es, m :: ms, h => by
    have tl : noDup (keysOf es ms) = true := by
      have h' : noDup (keyOf m e :: keysOf es ms) = true := h
      cases hk : keyOf m e with
      | none => rw [hk] at h'; exact h'
      | some j => rw [hk] at h'; exact (and3 h').2
    obtain ⟨q1, q2⟩ := ioVars_nd tl
    rcases arg_shape e m with ⟨i, rfl, rfl⟩ | hm | ⟨rfl, he⟩
    · have h' : (!(keysOf es ms).contains (some i) && noDup (keysOf es ms)) = true := h
      have nc := (and3 h').1
      refine ⟨fun k m => ?_, ?_⟩
      · rcases List.mem_cons.mp (show k ∈ i :: ioVars es ms from m) with rfl | z
        · show some k ∈ some k :: keysOf es ms; simp
        · show some k ∈ some i :: keysOf es ms; simp [q1 k z]
      · refine List.nodup_cons.mpr ⟨fun z => ?_, q2⟩
        have : (keysOf es ms).contains (some i) = true := by simpa using q1 i z
        rw [this] at nc; cases nc
    · rw [ioVars_skip hm]
      exact ⟨fun i z => List.mem_cons_of_mem _ (q1 i z), q2⟩
    · have e0 : ioVars (.cons e es) (.io :: ms) = ioVars es ms := by cases e <;> first | exact absurd rfl (he _) | rfl
      rw [e0]
      exact ⟨fun i z => List.mem_cons_of_mem _ (q1 i z), q2⟩
section
variable {C : Cn} {cc : CC} {O O' : Addr → Prop} {env env' : Env} {σ : L2.St} {H H' : Hp} {fp : Nat → List Addr}
theorem ioS_kind {s : Slot} (h : ioS s = true) : isOw s = true ∨ isIo s = true := by
  cases s with
  | ow _ => exact .inl rfl
  | io _ => exact .inr rfl
  | u => cases h
  | fz _ => cases h
  | bo _ => cases h
/-- the state behind a call -/
theorem SI.wr (I : SI C cc O env σ H fp) (Z : ∀ a, cc.Z a) {es : Es} {ms : List Md} {os : List OV} {vs : List V} {fs fs' : List (List Addr)} {p : PV} {v : V} (kf : FpR fp (keysOf es ms) fs) (nd : noDup (keysOf es ms) = true) (hb : ioB es ms env = true) (hv : VarR σ es ms vs)
    {w : Bool} (post : PostC C w O H O' H' ms fs fs' os vs p v) (hw : wrB es ms os env = some env') : At C cc O' env' σ H' ∧ Ext O H O' H' := by
  obtain ⟨n1, n2⟩ := ioVars_nd nd
  have chO : ∀ b, IoF ms fs b → O b := fun b h => by
    obtain ⟨i, _, m⟩ := io_in kf hb h
    exact I.inO i b m
  have hin : ∀ k, k ∈ ioVars es ms → ∃ s t v f, env[k]? = some s ∧ ioS s = true ∧ env'[k]? = some (putW s t) ∧ σ[k]? = some (some v) ∧ OVR C O' H' t v f ∧ isFz t = false ∧ wrF es ms fs' fp k = f ∧ f ∈ fs' := fun k m => wr_in hw hb post.outs hv n2 m
  have hno : ∀ k, k ∉ ioVars es ms → env'[k]? = env[k]? ∧ wrF es ms fs' fp k = fp k ∧ env'.length = env.length := fun k m => wr_not hw m
  have fresh : ∀ b x, H b = some x → O' b → O b := fun b x e o => by
    rcases post.fresh b o with z | z
    · exact z
    · rw [z] at e; cases e
  refine ⟨⟨wrF es ms fs' fp, ?_⟩, fun a x n e => ⟨fun o => n (fresh a x e o), post.keep a x (fun z => n (chO a z)) e⟩⟩
  have hsub : ∀ k a, a ∈ wrF es ms fs' fp k → (k ∈ ioVars es ms ∧ a ∈ fs'.flatten) ∨ (k ∉ ioVars es ms ∧ a ∈ fp k) := fun k a m => by
    by_cases hk : k ∈ ioVars es ms
    · obtain ⟨_, _, _, f, _, _, _, _, _, _, h7, h8⟩ := hin k hk
      rw [h7] at m
      exact .inl ⟨hk, List.mem_flatten.mpr ⟨f, h8, m⟩⟩
    · rw [(hno k hk).2.1] at m; exact .inr ⟨hk, m⟩
  have hs1 : ∀ k a, k ∈ ioVars es ms → a ∈ wrF es ms fs' fp k → a ∈ fp k ∨ H a = none := fun k a hk m => wr_sub kf post.sub hw hb n2 hk m
  have apart : ∀ k j a, k ∈ ioVars es ms → a ∈ wrF es ms fs' fp k → j ∉ ioVars es ms → a ∉ fp j := fun k j a hk m hj m2 => by
    rcases hs1 k a hk m with z | z
    · exact I.dis k j a (fun e => hj (e ▸ hk)) z m2
    · exact I.dom a (I.inO j a m2) z
  have hlen : env'.length = env.length := by
    cases hvs : ioVars es ms with
    | nil => exact (hno 0 (by rw [hvs]; simp)).2.2
    | cons i l => exact (hno (i + l.sum + (i :: l).length * 0 + ((i :: l).foldr max 0) + 1) (by
        rw [hvs]
        intro m
        have : ∀ (l : List Nat) x, x ∈ l → x ≤ l.foldr max 0 := by
          intro l
          induction l with
          | nil => intro x m; cases m
          | cons a l ih =>
            intro x m
            rcases List.mem_cons.mp m with rfl | m
            · simp only [List.foldr_cons]; omega
            · have := ih x m; simp only [List.foldr_cons]; omega
        have := this _ _ m
        omega)).2.2
  refine I.remake (ch := IoF ms fs) post.grow post.fresh post.dom post.keep (fun b h => ?_) chO hlen (fun k s x e1 e2 => ?_) (fun k s e => ?_) (fun k a m => ?_) (fun k => ?_) (fun k j a ne m1 m2 => ?_) (fun k a m => ?_) (fun k h => ?_) (fun k a m => Z a)
  · obtain ⟨i, h1, h2⟩ := io_in kf hb h
    obtain ⟨s, _, _, _, g1, g2, _⟩ := hin i h1
    rcases ioS_kind g2 with w | w
    · exact .inr (I.new i s b g1 w h2)
    · exact (I.ios i s b g1 w h2).imp (fun z => ⟨i, z⟩) id
  · by_cases hk : k ∈ ioVars es ms
    · obtain ⟨s0, t, w, f, g1, g2, g3, g4, g5, g6, g7, g8⟩ := hin k hk
      rw [g3] at e1; cases e1
      rw [g4] at e2; cases e2
      rw [g7]
      refine .inr ?_
      cases s0 with
      | ow _ => exact ⟨w, rfl, g5, g6⟩
      | io _ => exact ⟨w, rfl, g5, g6⟩
      | u => cases g2
      | fz _ => cases g2
      | bo _ => cases g2
    · refine .inl ⟨by rw [← (hno k hk).1]; exact e1, (hno k hk).2.1, fun a m z => ?_⟩
      obtain ⟨i, h1, h2⟩ := io_in kf hb z
      exact I.dis i k a (fun e => hk (e ▸ h1)) h2 m
  · by_cases hk : k ∈ ioVars es ms
    · obtain ⟨s0, t, w, f, g1, g2, g3, _⟩ := hin k hk
      rw [g3] at e; cases e
      have pk := putW_kind (t := t) (ioS_kind g2)
      exact ⟨s0, g1, fun z => by rw [← pk.1]; exact z, fun z => by rw [← pk.2]; exact z⟩
    · exact ⟨s, by rw [← (hno k hk).1]; exact e, id, id⟩
  · by_cases hk : k ∈ ioVars es ms
    · exact hs1 k a hk m
    · rw [(hno k hk).2.1] at m; exact .inl m
  · by_cases hk : k ∈ ioVars es ms
    · obtain ⟨_, _, _, f, _, _, _, _, _, _, h7, h8⟩ := hin k hk
      rw [h7]
      exact nodup_mem post.nd h8
    · rw [(hno k hk).2.1]; exact I.nd k
  · rcases hsub k a m1 with ⟨a1, b1⟩ | ⟨a1, b1⟩
    · rcases hsub j a m2 with ⟨a2, b2⟩ | ⟨a2, b2⟩
      · exact wr_dis ne hw hb post.outs hv n2 post.nd a1 a2 m1 m2
      · exact apart k j a a1 m1 a2 b2
    · rcases hsub j a m2 with ⟨a2, b2⟩ | ⟨a2, b2⟩
      · exact apart j k a a2 m2 a1 b1
      · exact I.dis k j a ne b1 b2
  · rcases hsub k a m with ⟨a1, b1⟩ | ⟨a1, b1⟩
    · exact post.inO a b1
    · exact post.grow a (I.inO k a b1)
  · by_cases hk : k ∈ ioVars es ms
    · obtain ⟨s0, t, w, f, g1, _⟩ := hin k hk
      have := (List.getElem?_eq_some_iff.mp g1).1
      omega
    · rw [(hno k hk).2.1]; exact I.out k h
end
end Lh
/-! E20: calls, methods, new objects as statements; fields. -/
namespace Lh
open PySem PySem.Spec PyProof.Rows L2
section
variable (C : Cn) (sp : SpT)
def tAsW (es : Es) (ms : List Md) : TA := fun σ H Q => ∃ cc O env fp R, SI C cc O env σ H fp ∧ evAs sp es ms env R ∧
  ∀ ts vs fs H', R ts → Same H H' → ArgsR C O H' ms ts vs fs → FpR fp (keysOf es ms) fs → VarR σ es ms vs → Q vs H'
def tAio (i : Nat) : TE := fun σ H Q => ∃ cc O env fp R, SI C cc O env σ H fp ∧ rdW env i R ∧
  ∀ t v f H', R t → Same H H' → ArgR C O H' .io t v f → FpR fp [some i] [f] → σ[i]? = some (some v) → Q v H'
end
section
variable {C : Cn} {sp : SpT} {X : Cx} {pos : Pos}
theorem saw_io {i : Nat} {ea : Expr} (h : PE X ea (tVar i)) : PE X ea (tAio C i) := h.conv fun σ H Q q => by
  obtain ⟨cc, O, env, fp, R, I, hv, k⟩ := q
  simp only [rdW] at hv
  split at hv
  · rename_i l e
    obtain ⟨x, hx, v, rfl, h1, h2⟩ := slot_of I e
    exact ⟨_, hx, k _ _ (fp i) H hv (Same.refl H) ⟨h1, h2⟩ (fpr_some (m := .io) (e := .var i) rfl (I.nd i) (List.Sublist.refl _)) hx⟩
  · rename_i l e
    obtain ⟨x, hx, v, rfl, h1, h2⟩ := slot_of I e
    exact ⟨_, hx, k _ _ (fp i) H hv (Same.refl H) ⟨h1, h2⟩ (fpr_some (m := .io) (e := .var i) rfl (I.nd i) (List.Sublist.refl _)) hx⟩
  · rename_i c fs e
    obtain ⟨x, hx, v, rfl, h1, h2⟩ := slot_of I e
    exact ⟨_, hx, k _ _ (fp i) H hv (Same.refl H) ⟨h1, h2⟩ (fpr_some (m := .io) (e := .var i) rfl (I.nd i) (List.Sublist.refl _)) hx⟩
  · rename_i c fs e
    obtain ⟨x, hx, v, rfl, h1, h2⟩ := slot_of I e
    exact ⟨_, hx, k _ _ (fp i) H hv (Same.refl H) ⟨h1, h2⟩ (fpr_some (m := .io) (e := .var i) rfl (I.nd i) (List.Sublist.refl _)) hx⟩
  · exact hv.elim
theorem saws_nil : PA X [] (tAsW C sp .nil []) := pa_nil.conv fun σ H Q q => by
  obtain ⟨cc, O, env, fp, R, I, hv, k⟩ := q
  exact k [] [] [] H hv (Same.refl H) ⟨rfl, rfl, rfl⟩ rfl trivial
theorem saws_io {ms : List Md} {i : Nat} {es : Es} {a : Expr} {as : List Expr} (hp : plainA a = true) (h : PE X a (tAio C i)) (hr : PA X as (tAsW C sp es ms)) : PA X (a :: as) (tAsW C sp (.cons (.var i) es) (.io :: ms)) := (pa_cons h hr (star1 hp)).conv fun σ H Q q => by
  obtain ⟨cc, O, env, fp, R, I, hv, k⟩ := q
  have hv : rdW env i fun t => evAs sp es ms env fun ts => R (t :: ts) := hv
  refine ⟨cc, O, env, fp, _, I, hv, fun t v f H1 r1 s1 a1 k1 l1 => ?_⟩
  refine ⟨cc, O, env, fp, _, I.same s1, r1, fun ts vs fs H2 r2 s2 a2 k2 l2 => ?_⟩
  exact k _ _ (f :: fs) H2 r2 (s1.trans s2) ⟨t, ts, v, vs, f, fs, rfl, rfl, rfl, a1.ext (ExtW.same s2), a2⟩ (fpr_cons k1 k2) ⟨l1, l2⟩
theorem saws_cons {m : Md} {ms : List Md} {e : E} {es : Es} {a : Expr} {as : List Expr} (hm : m ≠ .io) (hp : plainA a = true) (h : PE X a (tA C sp m e)) (hr : PA X as (tAsW C sp es ms)) : PA X (a :: as) (tAsW C sp (.cons e es) (m :: ms)) := (pa_cons h hr (star1 hp)).conv fun σ H Q q => by
  obtain ⟨cc, O, env, fp, R, I, hv, k⟩ := q
  refine ⟨cc, O, env, fp, _, I, hv, fun t v f H1 r1 s1 a1 k1 => ?_⟩
  refine ⟨cc, O, env, fp, _, I.same s1, r1, fun ts vs fs H2 r2 s2 a2 k2 l2 => ?_⟩
  exact k _ _ (f :: fs) H2 r2 (s1.trans s2) ⟨t, ts, v, vs, f, fs, rfl, rfl, rfl, a1.ext (ExtW.same s2), a2⟩ (fpr_cons k1 k2) (by rw [varR_skip hm]; exact l2)
/-- where the result goes -/
def dstV (d : Option Nat) (v : V) (σ : L2.St) : L2.St := match d with
  | none => σ
  | some i => σ.set i (some v)
/-- the call itself -/
theorem call_core {d : Option Nat} {j : Nat} {ms : List Md} {es : Es} {D : Ends} {cc : CC} {O O1 : Addr → Prop} {env : Env} {σ : L2.St} {H H1 : Hp} {fp : Nat → List Addr} {P : R → Prop} {ts : List OV} {vs : List V} {fs : List (List Addr)} {E : XK} (I : SI C cc O env σ H1 fp) (Z : ∀ a, cc.Z a) (x1 : Ext O1 H O H1)
    (hd : noDup (keysOf es ms) = true) (hb : ioB es ms env = true) (h : sp j ts fun p os => ∃ env', wrB es ms os env = some env' ∧ P (.nx (dstE d p env'))) (a : ArgsR C O H1 ms ts vs fs) (kf : FpR fp (keysOf es ms) fs) (hv : VarR σ es ms vs) (k : ∀ r, P r → Fin C cc O1 H D r) :
    spF C sp j ms vs H1 (fun v H' => D.nx (dstV d v σ) H') E := by
  refine ⟨O, ts, fs, _, a, kf.nodup I.dis hd, fun a m => ?_, I.dom, h, fun p os v H' O' fs' r post => ?_⟩
  · obtain ⟨i, _, m⟩ := kf.mem m
    exact I.inO i a m
  · obtain ⟨env', hw, r⟩ := r
    obtain ⟨A', x'⟩ := I.wr Z kf hd hb hv post hw
    cases d with
    | none => exact k _ r O' σ H' A' (x1.trans x')
    | some i => exact k _ r O' _ H' (A'.set i post.rep) (x1.trans x')
theorem call_read {d : Option Nat} {j : Nat} {ms : List Md} {es : Es} (hd : noDup (keysOf es ms) = true) {D : Ends} {σ : L2.St} {H : Hp} {E : XK} (q : tS C sp (.call d j ms es) D σ H) : tAsW C sp es ms σ H fun vs H1 => spF C sp j ms (vs ++ []) H1 (fun v H' => D.nx (dstV d v σ) H') E := by
  obtain ⟨cc, O, env, P, A, Z, ⟨hb, hv⟩, k⟩ := q
  obtain ⟨fp, I⟩ := A.ex
  refine ⟨cc, O, env, fp, _, I, hv, fun ts vs fs H1 r1 s1 a1 k1 l1 => ?_⟩
  show spF C sp j ms (vs ++ []) H1 _ E
  rw [List.append_nil]
  exact call_core (I.same s1) Z (Ext.same s1) hd hb r1 a1 k1 l1 k
theorem ss_call {j k : Nat} {ms : List Md} {es : Es} {ea : Expr} {eas : List Expr} {x : Str} {f : Addr} {fd : FuncData} {ps : List Str} {p cpos : Pos} (F : FnOk X.prog X.w X.K X.mg X.base CX0 k f fd ps (spF C sp j ms)) (hr : Room k X.A) (hg : Gl X x) (hmg : X.mg x = some (.ref f)) (hk : PySem.W.keepIn X.K (.ref f) = true)
    (hb : Binds X.K fd ps []) (hd : noDup (keysOf es ms) = true) (hp : (ea :: eas).all plainA = true) (hdb : (x == ("__debug__" : Str)) = false) (ha : PA X (ea :: eas) (tAsW C sp es ms)) :
    PS X (.Expr (.Call (.Name x p) (ea :: eas) [] cpos) pos) (tS C sp (.call none j ms es)) := by
  have hp1 : plainA ea = true := by rw [List.all_cons, Bool.and_eq_true] at hp; exact hp.1
  have hp2 : eas.all plainA = true := by rw [List.all_cons, Bool.and_eq_true] at hp; exact hp.2
  exact (ps_expr (pe_call F hr hg hmg hk hb .nil pass0 ha hdb (star1 hp1) (starN hp2)) rfl).conv fun D σ H q => call_read hd q
theorem ss_callD {i j k : Nat} {y : Str} {py : Pos} {ms : List Md} {es : Es} {ea : Expr} {eas : List Expr} {x : Str} {f : Addr} {fd : FuncData} {ps : List Str} {p cpos : Pos} (hN : X.N.Nodup) (hi : X.N[i]? = some y) (hx : Loc X.env.scope y) (hf : X.fn y = true ∨ X.env.scope.names.lookup y = some .local)
    (F : FnOk X.prog X.w X.K X.mg X.base CX0 k f fd ps (spF C sp j ms)) (hr : Room k X.A) (hg : Gl X x) (hmg : X.mg x = some (.ref f)) (hk : PySem.W.keepIn X.K (.ref f) = true)
    (hb : Binds X.K fd ps []) (hd : noDup (keysOf es ms) = true) (hp : (ea :: eas).all plainA = true) (hdb : (x == ("__debug__" : Str)) = false) (ha : PA X (ea :: eas) (tAsW C sp es ms)) :
    PS X (.Assign [.Name y py] (.Call (.Name x p) (ea :: eas) [] cpos) pos) (tS C sp (.call (some i) j ms es)) := by
  have hp1 : plainA ea = true := by rw [List.all_cons, Bool.and_eq_true] at hp; exact hp.1
  have hp2 : eas.all plainA = true := by rw [List.all_cons, Bool.and_eq_true] at hp; exact hp.2
  exact (ps_set hN hi hx (pe_call F hr hg hmg hk hb .nil pass0 ha hdb (star1 hp1) (starN hp2)) rfl hf).conv fun D σ H q => call_read hd q
/-! ### fields -/
theorem putFd_ok {O : Addr → Prop} {H : Hp} {c f : Nat} {s : Str} (inj : ∀ i j z, C.nm i = some z → C.nm j = some z → i = j) (hf : C.nm f = some s) (hn : NoAttr C.K (C.ga c) s) {x : OF} {v : V} {f1 : List Addr} (hx : OFR C O H x v f1) (n1 : f1.Nodup) :
    ∀ {fs : List (Nat × OF)} {fvs : List (Str × V)} {g : List Addr}, OFs C O H c fs fvs g → g.Nodup → (∀ a ∈ g, a ∉ f1) → ∃ g', OFs C O H c (putFd fs f x) (putF s v fvs) g' ∧ g'.Nodup ∧ ∀ a ∈ g', a ∈ g ∨ a ∈ f1
  | [], _, _, h, nd, _ => by
    obtain ⟨rfl, rfl⟩ := h
    exact ⟨f1, ⟨s, v, [], f1, [], rfl, by simp, ⟨hf, hn⟩, hx, rfl, rfl⟩, n1, fun a m => .inr m⟩
  | (k, y) :: r, _, _, h, nd, d => by
    obtain ⟨s', v', t, g1, g2, rfl, rfl, q1, q3, q4⟩ := h
    rw [List.nodup_append] at nd
    unfold putFd
    by_cases hk : k = f
    · subst hk
      rw [hf] at q1
      cases q1.1
      rw [if_pos rfl]
      have e : putF s v ((s, v') :: t) = (s, v) :: t := by simp [putF]
      rw [e]
      refine ⟨f1 ++ g2, ⟨s, v, t, f1, g2, rfl, rfl, ⟨hf, hn⟩, hx, q4⟩, ?_, fun a m => ?_⟩
      · rw [List.nodup_append]
        exact ⟨n1, nd.2.1, fun a m b m2 z => d b (by simp [m2]) (z ▸ m)⟩
      · rcases List.mem_append.mp m with m | m
        · exact .inr m
        · exact .inl (by simp [m])
    · rw [if_neg hk]
      have hs : s' ≠ s := by
        rintro rfl
        exact hk (inj _ _ _ q1.1 hf)
      have e : putF s v ((s', v') :: t) = (s', v') :: putF s v t := by simp [putF, hs]
      rw [e]
      obtain ⟨g', p1, p2, p3⟩ := putFd_ok inj hf hn hx n1 q4 nd.2.1 (fun a m => d a (by simp [m]))
      refine ⟨g1 ++ g', ⟨s', v', _, g1, g', rfl, rfl, q1, q3, p1⟩, ?_, fun a m => ?_⟩
      · rw [List.nodup_append]
        refine ⟨nd.1, p2, fun a m b m2 z => ?_⟩
        subst z
        rcases p3 a m2 with z | z
        · exact nd.2.2 a m a z rfl
        · exact d a (by simp [m]) z
      · rcases List.mem_append.mp m with m | m
        · exact .inl (by simp [m])
        · rcases p3 a m with z | z
          · exact .inl (by simp [z])
          · exact .inr z
theorem OFs.len {O : Addr → Prop} {H : Hp} {c : Nat} : ∀ {fs : List (Nat × OF)} {fvs : List (Str × V)} {g : List Addr}, OFs C O H c fs fvs g → fvs.length = fs.length
  | [], _, _, h => by rw [h.1]; rfl
  | (k, y) :: r, _, _, h => by
    obtain ⟨s', v', t, g1, g2, rfl, rfl, q1, q3, q4⟩ := h
    simp [OFs.len q4]
theorem ss_setfd {i c f : Nat} {s : Str} {e : E} {eo ea : Expr} {p : Pos} (hK : X.K = C.K) (inj : ∀ i j z, C.nm i = some z → C.nm j = some z → i = j) (hf : C.nm f = some s) (hn : NoAttr C.K (C.ga c) s) (hs : swapsWith ea (some (.Attribute eo s p)) pos.line X.env = pure false) (ho : PE X eo (tVar i)) (he : PE X ea (tE C sp e)) :
    PS X (.Assign [.Attribute eo s p] ea pos) (tS C sp (.setfd i c f e)) := (ps_fld ho he hs).conv fun D σ H q => by
  obtain ⟨cc, O, env, P, A, Z, hv, k⟩ := q
  refine tE_use A hv fun pv v H1 r1 s1 e1 fr => ?_
  obtain ⟨fp, I⟩ := A.ex
  obtain ⟨O1, f1, I1, x1, _, h1, n1, o1, e1', io1, up1⟩ := I.newv s1 e1 fr
  have main : ∀ sl d fs, env[i]? = some sl → (sl = .ow (.obj d fs) ∨ sl = .io (.obj d fs)) → d = c → fs.length < 100 → P (.nx (env.set i (putW sl (.obj d (putFd fs f (mkF e pv)))))) → tVar i σ H1 fun x H2 => ∃ a C' dx fvs, x = .ref a ∧ H2 a = some (.ins C' dx fvs) ∧ Cls X.K C' ∧ NoAttr X.K C' s ∧ fvs.length < 1000 ∧ D.nx σ (upd H2 a (.ins C' dx (putF s v fvs))) := by
    intro sl d fs es ks hd hl hP
    subst hd
    obtain ⟨w, hw, ⟨o, dx, fvs, g, rfl, q1, q2, q3, q4⟩, _, hk⟩ := I1.own es ks
    have nd := I1.nd i
    rw [q4, List.nodup_cons] at nd
    have dis : ∀ j a, a ∈ fp j → a ∉ f1 := fun j a m m' => I.dom a (I.inO j a m) (e1' a m')
    have hne : o ∉ f1 := dis i o (by rw [q4]; simp)
    have hO : O1 o := I1.inO i o (by rw [q4]; simp)
    let H2 : Hp := upd H1 o (.ins (C.ga d) dx (putF s v fvs))
    have keep : ∀ b x, b ≠ o → H1 b = some x → H2 b = some x := fun b x n e => by show (upd H1 o _) b = _; rw [upd_ne n]; exact e
    have ex : Ext O1 H1 O1 H2 := fun b x n e => ⟨n, keep b x (fun z => n (z ▸ hO)) e⟩
    have q3' : OFs C O1 H2 d fs fvs g := q3.ext ⟨ex, fun a x m e => keep a x (fun z => nd.1 (z ▸ m)) e⟩
    have h1' : OFR C O1 H2 (mkF e pv) v f1 := h1.ext ⟨ex, fun a x m e => keep a x (fun z => hne (z ▸ m)) e⟩
    obtain ⟨g', p1, p2, p3⟩ := putFd_ok inj hf hn h1' n1 q3' nd.2 (fun a m => dis i a (by rw [q4]; simp [m]))
    refine ⟨_, hw, o, _, dx, fvs, rfl, q1, by rw [hK]; exact q2.2, by rw [hK]; exact hn, by rw [q3.len]; omega, ?_⟩
    have ng : o ∉ g' := fun m => by
      rcases p3 o m with z | z
      · exact nd.1 z
      · exact hne z
    refine k _ hP O1 σ H2 ⟨_, I1.change es hk hw (fun b x n e => keep b x (fun z => n (by rw [q4, z]; simp)) e) (fun b m => ?_) (t := .obj d (putFd fs f (mkF e pv))) (f := o :: g') ⟨o, dx, _, g', rfl, upd_same, q2, p1, rfl⟩ rfl (List.nodup_cons.mpr ⟨ng, p2⟩) (fun a m => ?_) (fun a _ => Z a)⟩ (x1.trans ex)
    · by_cases hb : b = o
      · rw [hb]; show (upd H1 o _) o ≠ none; rw [upd_same]; simp
      · show (upd H1 o _) b ≠ none; rw [upd_ne hb]; exact I1.dom b (I1.inO i b m)
    · rcases List.mem_cons.mp m with rfl | m
      · exact .inl (by rw [q4]; simp)
      · rcases p3 a m with z | z
        · exact .inl (by rw [q4]; simp [z])
        · exact .inr ⟨o1 a z, I.h0 (e1' a z), fun j m' => dis j a m' z⟩
  simp only [fdR] at r1
  split at r1
  · rename_i d fs es
    exact main _ d fs es (.inl rfl) r1.1.1 r1.1.2 r1.2
  · rename_i d fs es
    exact main _ d fs es (.inr rfl) r1.1.1 r1.1.2 r1.2
  · exact r1.elim
end
end Lh
set_option maxHeartbeats 1000000
/-! E21: every checked statement has its reading. -/
namespace Lh
open PySem PySem.Spec PyProof.Rows L2
section
variable {B : Tab} {C : Cn} {sp : SpT} {N : List Str} {lv : Nat} {sc : Scope} {as : List Str} {X : Cx}
theorem sw_no {ea : Expr} {t : Option Expr} {n : Nat} {env : PySem.Env} (h : notLc ea = true) : swapsWith ea t n env = pure false := by
  cases ea <;> first | rfl | cases h
theorem sole_tup {ea : Expr} {es : List Expr} {k : Nat} {p : Pos} {n : Nat} {env : PySem.Env} : swapsWithSole [.Tuple es k p] ea n env = pure false := by cases ea <;> rfl
theorem sto_tup {ea tg : Expr} {env : PySem.Env} (h : notTup ea = true) : swappedStores [tg] ea env = pure none := by
  cases ea <;> first | (cases h; done) | (cases tg <;> rfl)
theorem sw_attr {ea o : Expr} {s : Str} {p : Pos} {n : Nat} {env : PySem.Env} : swapsWith ea (some (.Attribute o s p)) n env = pure false := by cases ea <;> rfl
theorem fun_kind (G : GX B C sp N lv sc as X) (h : isFun sc = true) : X.env.blockKind = .function := by
  have e : X.env.scope.kind = .function := by
    rw [G.eS]
    unfold isFun at h
    split at h
    · assumption
    · cases h
  unfold Env.blockKind
  rw [e]; rfl
theorem loc_kind (G : GX B C sp N lv sc as X) {x : Str} (h : loc1 sc x = true) : X.env.scope.names.lookup x = some .local := by
  rw [G.eS]
  unfold loc1 at h
  split at h
  · assumption
  · cases h
theorem sw_yes (G : GX B C sp N lv sc as X) {elt : Expr} {gs : List Comprehension} {scope : Scope} {p px : Pos} {x : Str} {n : Nat} (h : lcSame sc x px (.ListComp elt gs scope p) = true) : swapsWith (.ListComp elt gs scope p) (some (.Name x px)) n X.env = pure true := by
  obtain ⟨h, h4⟩ := and3 h
  obtain ⟨h, h3⟩ := and3 h
  obtain ⟨h1, h2⟩ := and3 h
  have a := fun_kind G h1
  have b : X.env.kindOf x = some .local := loc_kind G h2
  show (pure (X.env.blockKind == .function && X.env.kindOf x == some .local && px.line == p.line && !(scope.names.any fun q => q.1 == x && (q.2 == .local || q.2 == .cell))) : Sem Bool) = pure true
  rw [a, b, h3, h4]; rfl
theorem loc1_eq (G : GX B C sp N lv sc as X) (x : Str) : (X.env.kindOf x == some .local) = loc1 sc x := by
  have e : X.env.kindOf x = sc.names.lookup x := by
    show X.env.scope.names.lookup x = _
    rw [G.eS]
  rw [e]
  unfold loc1
  cases sc.names.lookup x with
  | none => rfl
  | some k => cases k <;> rfl
theorem sw_diff (G : GX B C sp N lv sc as X) {ea : Expr} {px : Pos} {x : Str} {n : Nat} (h : lcDiff sc x px ea = true) : swapsWith ea (some (.Name x px)) n X.env = pure false := by
  cases ea <;> first | exact (Bool.false_ne_true h).elim | skip
  rename_i elt gs scope p
  obtain ⟨h1, h2⟩ := and3 h
  have a := fun_kind G h1
  show (pure (X.env.blockKind == .function && X.env.kindOf x == some .local && px.line == p.line && !(scope.names.any fun q => q.1 == x && (q.2 == .local || q.2 == .cell))) : Sem Bool) = pure false
  rw [a, loc1_eq G x]
  have h2' : (loc1 sc x && px.line == p.line && !(scope.names.any fun q => q.1 == x && (q.2 == .local || q.2 == .cell))) = false := by rw [Bool.not_eq_true'] at h2; exact h2
  show (pure (true && loc1 sc x && px.line == p.line && !(scope.names.any fun q => q.1 == x && (q.2 == .local || q.2 == .cell))) : Sem Bool) = pure false
  rw [Bool.true_and, h2']
theorem sto_cell (G : GX B C sp N lv sc as X) {es : List Expr} {ea : Expr} {k : Nat} {p : Pos} (h : cellTup sc es ea = true) : swappedStores [.Tuple es k p] ea X.env = pure none := by
  unfold cellTup at h
  split at h
  · rename_i x px y py a b k2 p2
    unfold swappedStores
    have kx := loc1_eq G x
    have ky := loc1_eq G y
    by_cases hf : X.env.blockKind = .function
    · simp only [hf]
      cases h1 : loc1 sc x with
      | false =>
        rw [h1] at kx
        have kx' : ¬ X.env.kindOf x = some .local := by simpa using kx
        simp [List.filterMap_cons, kx']
        intro _ _ h3
        split at h3 <;> simp at h3
      | true =>
        rw [h1] at h
        have h2 : loc1 sc y = false := by simpa using h
        rw [h2] at ky
        have ky' : ¬ X.env.kindOf y = some .local := by simpa using ky
        simp [List.filterMap_cons, ky']
        intro _ _ h3
        split at h3 <;> simp at h3
    · have : (X.env.blockKind != ScopeKind.function) = true := by simpa using hf
      simp [this]
  · cases h
theorem par_sw (G : GX B C sp N lv sc as X) {x y : Str} {px py pt pt2 : Pos} {kt k2 : Nat} {ea eb : Expr} (h : parB sc x y px py ea eb = true) : swappedStores [.Tuple [.Name x px, .Name y py] kt pt] (.Tuple [ea, eb] k2 pt2) X.env = pure (some [x, y]) := by
  obtain ⟨h, h9⟩ := and3 h
  obtain ⟨h, h8⟩ := and3 h
  obtain ⟨h, h7⟩ := and3 h
  obtain ⟨h, h6⟩ := and3 h
  obtain ⟨h, h5⟩ := and3 h
  obtain ⟨h, h4⟩ := and3 h
  obtain ⟨h, h3⟩ := and3 h
  obtain ⟨h1, h2⟩ := and3 h
  have a := fun_kind G h1
  have b : X.env.kindOf x = some .local := loc_kind G h2
  have c : X.env.kindOf y = some .local := loc_kind G h3
  have st : ([ea, eb].any fun | .Starred .. => true | _ => false) = false := by
    cases ea <;> first | (cases h6; done) | (cases eb <;> first | (cases h7; done) | rfl)
  have h8' : [ea, eb].all (foldedForSure 8) = false := by
    cases hh : [ea, eb].all (foldedForSure 8) with
    | false => rfl
    | true => rw [hh] at h8; cases h8
  have h9' : [ea, eb].all (constantsAlone 8) = false := by
    cases hh : [ea, eb].all (constantsAlone 8) with
    | false => rfl
    | true => rw [hh] at h9; cases h9
  have ne : x ≠ y := by simpa using h5
  have l4 : px.line = py.line := by simpa using h4
  have nd : ([x, y] : List Str).eraseDups = [x, y] := by
    have : (y == x) = false := by rw [beq_eq_false_iff_ne]; exact Ne.symm ne
    simp [List.eraseDups_cons, this]
  unfold swappedStores
  simp only [a, st, h8', h9', List.filterMap_cons, List.filterMap_nil, b, c, List.head?_cons, Option.map_some, Option.getD_some, l4, Expr.pos]
  simp [nd]
  intro hst
  rcases hst with z | z
  · cases ea <;> first | (cases h6; done) | (cases z; done)
  · cases eb <;> first | (cases h7; done) | (cases z; done)
theorem parOf_ok {tgs : List Expr} {v ea eb : Expr} {x y : Str} {px py : Pos} (h : parOf tgs v = some ((x, px), (y, py), ea, eb)) : ∃ k1 p1 k2 p2, tgs = [.Tuple [.Name x px, .Name y py] k1 p1] ∧ v = .Tuple [ea, eb] k2 p2 := by
  unfold parOf at h
  split at h
  · cases h; exact ⟨_, _, _, _, rfl, rfl⟩
  · cases h
theorem setB_ok (G : GX B C sp N lv sc as X) {i : Nat} {x : Str} (h : setB N as i x = true) : X.N.Nodup ∧ X.N[i]? = some x ∧ L2.Loc X.env.scope x ∧ (X.fn x = true ∨ X.env.scope.names.lookup x = some .local) := by
  obtain ⟨h1, h2⟩ := and3 h
  obtain ⟨g1, g2⟩ := G.asg x (by simpa using h2)
  exact ⟨by rw [G.eN]; exact G.nd, by rw [G.eN]; exact beq_iff_eq.mp h1, by rw [G.eS]; exact g1, by rw [G.eS]; exact g2⟩
theorem chkL_ok (G : GX B C sp N lv sc as X) {l : LV} {a : Expr} (h : chkL B N sc l a = true) : LvOk C l ∧ PE X a (tLv C l) := by
  cases l with
  | nm i =>
    cases a <;> first | exact (Bool.false_ne_true h).elim | skip
    exact ⟨⟨G.inj, "", fun _ _ z => by cases z⟩, pl_nm G.inj (G.var h)⟩
  | fd i f =>
    cases a <;> first | exact (Bool.false_ne_true h).elim | skip
    rename_i o s p
    cases o <;> first | exact (Bool.false_ne_true h).elim | skip
    obtain ⟨h1, h2⟩ := and3 h
    have e : C.nm f = some s := by rw [G.nm]; exact beq_iff_eq.mp h2
    exact ⟨⟨G.inj, s, fun _ _ z => by cases z; exact e⟩, pl_fd G.inj G.eK e rfl (G.var h1)⟩
theorem soAsW (G : GX B C sp N lv sc as X) : ∀ (es : Es) (ms : List Md) (a : List Expr), chkAsW B N lv sc es ms a = true → PA X a (tAsW C sp es ms)
  | .nil, ms, a, h => by
    cases ms with
    | cons _ _ => exact (Bool.false_ne_true h).elim
    | nil =>
      cases a with
      | nil => exact saws_nil
      | cons _ _ => exact (Bool.false_ne_true h).elim
  | .cons e es, ms, a, h => by
    cases ms with
    | nil => cases e <;> exact (Bool.false_ne_true h).elim
    | cons m ms =>
      cases a with
      | nil => cases e <;> cases m <;> exact (Bool.false_ne_true h).elim
      | cons b bs =>
        have plain : m ≠ .io → PA X (b :: bs) (tAsW C sp (.cons e es) (m :: ms)) := fun hm => by
          have h' : (plainA b && chkE B N lv sc e b && chkAsW B N lv sc es ms bs) = true := by
            cases m <;> first | exact absurd rfl hm | (cases e <;> exact h)
          obtain ⟨h1, h3⟩ := and3 h'
          obtain ⟨h1, h2⟩ := and3 h1
          exact saws_cons hm h1 (soA hm G h2 (soE e G b h2)) (soAsW G es ms bs h3)
        cases m with
        | va => exact plain (fun z => nomatch z)
        | bo => exact plain (fun z => nomatch z)
        | io =>
          cases e <;> first | exact (Bool.false_ne_true h).elim | skip
          cases b <;> first | exact (Bool.false_ne_true h).elim | skip
          obtain ⟨h1, h2⟩ := and3 h
          exact saws_io rfl (saw_io (G.var h1)) (soAsW G es ms bs h2)
theorem lc_asg (G : GX B C sp N lv sc as X) {i : Nat} {it : It} {tg : Tg} {c : TO} {e : E} {vs : List Nat} {x : Str} {px pos : Pos} {ea : Expr} (h1 : setB N as i x = true) (h2 : chkE B N lv sc (.comp it tg c e vs) ea = true) (h3 : lcSame sc x px ea = true) : PS X (.Assign [.Name x px] ea pos) (tS C sp (.asg i (.comp it tg c e vs))) := by
  obtain ⟨g1, g2, g3, g4⟩ := setB_ok G h1
  cases ea <;> first | exact (Bool.false_ne_true h2).elim | skip
  rename_i elt gs scope p
  have hl := loc_kind G (and3 (and3 (and3 h3).1).1).2
  match gs, h2, h3 with
  | [], h, _ => exact (Bool.false_ne_true h).elim
  | ⟨_, _, _, _⟩ :: ⟨_, _, _, _⟩ :: _, h, _ => exact (Bool.false_ne_true h).elim
  | [⟨etg, iter, ifs, asy⟩], h, h3 =>
    obtain ⟨h, h7⟩ := and3 h
    obtain ⟨h, h6⟩ := and3 h
    obtain ⟨h, h5⟩ := and3 h
    obtain ⟨h, h4⟩ := and3 h
    obtain ⟨h, h9⟩ := and3 h
    obtain ⟨h, h2⟩ := and3 h
    obtain ⟨h0, h1⟩ := and3 h
    have e := beq_iff_eq.mp h0
    subst e
    have key := ps_setLc (pos := p) (spos := pos) (py := px) (i := i) G.calm g1 g2 hl (sw_yes G h3) (soI it true G iter etg h5) (by rw [G.eN, G.eS]; exact blkOk_by h1) (fun s H C' cl fp => soTg tg (G.blk s H scope C' cl fp vs) etg h4)
      (fun s H C' cl fp => soTO c (G.blk s H scope C' cl fp vs) ifs h6) (fun s H C' cl fp => soE e (G.blk s H scope C' cl fp vs) elt h7) (fold_of h2 _)
    rw [own_map vs] at key
    exact key.conv fun D σ H q => so_comp_read (vsAll h9) σ H _ (asg_read D σ H q)
theorem lc_asg2 (G : GX B C sp N lv sc as X) {i : Nat} {it it1 : It} {tg tg1 : Tg} {c c1 : TO} {e : E} {vs vs1 : List Nat} {x : Str} {px pos : Pos} {ea : Expr} (h1 : setB N as i x = true) (h2 : chkE B N lv sc (.comp2 it tg c it1 tg1 c1 e vs vs1) ea = true) (h3 : lcSame sc x px ea = true) : PS X (.Assign [.Name x px] ea pos) (tS C sp (.asg i (.comp2 it tg c it1 tg1 c1 e vs vs1))) := by
  obtain ⟨g1, g2, g3, g4⟩ := setB_ok G h1
  cases ea <;> first | exact (Bool.false_ne_true h2).elim | skip
  rename_i elt gs scope p
  have hl := loc_kind G (and3 (and3 (and3 h3).1).1).2
  match gs, h2, h3 with
  | [], h, _ => exact (Bool.false_ne_true h).elim
  | [⟨_, _, _, _⟩], h, _ => exact (Bool.false_ne_true h).elim
  | ⟨_, _, _, _⟩ :: ⟨_, _, _, _⟩ :: _ :: _, h, _ => exact (Bool.false_ne_true h).elim
  | [⟨etg, iter, ifs, asy⟩, ⟨etg1, iter1, ifs1, asy1⟩], h, h3 =>
    obtain ⟨h, h13⟩ := and3 h
    obtain ⟨h, h12⟩ := and3 h
    obtain ⟨h, h11⟩ := and3 h
    obtain ⟨h, h10⟩ := and3 h
    obtain ⟨h, h9⟩ := and3 h
    obtain ⟨h, h8⟩ := and3 h
    obtain ⟨h, h7⟩ := and3 h
    obtain ⟨h, h6⟩ := and3 h
    obtain ⟨h, h5⟩ := and3 h
    obtain ⟨h, h4⟩ := and3 h
    obtain ⟨h, h14⟩ := and3 h
    obtain ⟨h, h2⟩ := and3 h
    obtain ⟨h, h1⟩ := and3 h
    obtain ⟨h0, h00⟩ := and3 h
    have e := beq_iff_eq.mp h0
    subst e
    have e := beq_iff_eq.mp h00
    subst e
    have key := ps_setLc2 (vs1 := vs1) (pos := p) (spos := pos) (py := px) (i := i) G.calm g1 g2 hl (sw_yes G h3) (soI it true G iter etg h9) (by rw [G.eN, G.eS]; exact blkOk_by h1) (by rw [own_map vs]; exact vsAll h6) (fun s H C' cl fp => soTg tg (G.blk s H scope C' cl fp vs) etg h7)
        (fun s H C' cl fp => soTO c (G.blk s H scope C' cl fp vs) ifs h10) (fun s H C' cl fp => soI it1 false (G.blk s H scope C' cl fp vs) iter1 etg1 h11) (fun s H C' cl fp => soTg tg1 (G.blk s H scope C' cl fp vs) etg1 h8)
        (fun s H C' cl fp => soTO c1 (G.blk s H scope C' cl fp vs) ifs1 h12) (fun s H C' cl fp => soE e (G.blk s H scope C' cl fp vs) elt h13) (fold_of h2 _) (fold_of h14)
    rw [own_map vs] at key
    exact key.conv fun D σ H q => so_comp2_read (vsAll h4) (vsAll h5) σ H _ (asg_read D σ H q)
theorem call_ok (G : GX B C sp N lv sc as X) {j : Nat} {ms : List Md} {es : Es} {x : Str} {eas : List Expr} (h : (!eas.isEmpty && glB sc x && nameOk x && eas.all plainA && noDup (keysOf es ms) && fnB B lv j (fun f => f.name == x && f.cls == none && mdsEq ms f.ms && f.kwn.isEmpty) && chkAsW B N lv sc es ms eas) = true) :
    ∃ ea eas' k b fd fs, eas = ea :: eas' ∧ FnOk X.prog X.w X.K X.mg X.base CX0 k b fd fs (spF C sp j ms) ∧ Room k X.A ∧ Gl X x ∧ X.mg x = some (.ref b) ∧ PySem.W.keepIn X.K (.ref b) = true ∧ Binds X.K fd fs [] ∧ noDup (keysOf es ms) = true ∧ (ea :: eas').all plainA = true ∧ (x == ("__debug__" : Str)) = false ∧ PA X (ea :: eas') (tAsW C sp es ms) := by
  obtain ⟨h, h7⟩ := and3 h
  obtain ⟨h, h6⟩ := and3 h
  obtain ⟨h, h5⟩ := and3 h
  obtain ⟨h, h4⟩ := and3 h
  obtain ⟨h, h3⟩ := and3 h
  obtain ⟨h1, h2⟩ := and3 h
  obtain ⟨fs, f1, f2, f3⟩ := fnB_ok h6
  obtain ⟨f3, f7⟩ := and3 f3
  obtain ⟨f3, f6⟩ := and3 f3
  obtain ⟨f4, f5⟩ := and3 f3
  obtain ⟨k, b, fd, F, hr, hmg, hkp, hb, _⟩ := G.calls.plain j fs f1 f2 (beq_iff_eq.mp f5)
  have e1 := beq_iff_eq.mp f4
  have e2 := mdsEq_ok f6
  have e3 : fs.kwn = [] := by simpa using f7
  subst e1
  rw [← e2] at F
  have ha := soAsW G es ms eas h7
  cases eas with
  | nil => exact absurd h1 (by decide)
  | cons ea eas => exact ⟨ea, eas, k, b, fd, fs.ps, rfl, F, hr, G.gl h2, hmg, hkp, hb e3, h5, h4, nameOk_db h3, ha⟩
end
section
variable {B : Tab} {C : Cn} {sp : SpT} {N : List Str} {lv : Nat} {sc : Scope} {as : List Str} {X : Cx}
mutual
theorem soS (G : GX B C sp N lv sc as X) (po : PassesOwn (model X.prog X.w) X.A X.env X.xe) : ∀ (s : S) (st : Stmt), chkS B N lv sc as s st = true → PS X st (tS C sp s)
  | .pass, st, h => by
    cases st <;> first | exact (Bool.false_ne_true h).elim | skip
    exact ss_pass
  | .ex e, st, h => by
    cases st <;> first | exact (Bool.false_ne_true h).elim | skip
    obtain ⟨h1, h2⟩ := and3 h
    exact ss_ex (sw_no h1) (soE e G _ h2)
  | .asg i e, st, h => by
    cases st <;> first | (cases e <;> exact (Bool.false_ne_true h).elim) | skip
    rename_i tgs ea pos
    match tgs, h with
    | [], h => cases e <;> exact (Bool.false_ne_true h).elim
    | t :: _ :: _, h => cases e <;> cases t <;> exact (Bool.false_ne_true h).elim
    | [t], h =>
      cases t <;> first | (cases e <;> exact (Bool.false_ne_true h).elim) | skip
      rename_i x px
      by_cases hc : ∃ it tg c e' vs, e = .comp it tg c e' vs
      · obtain ⟨it, tg, c, e', vs, rfl⟩ := hc
        obtain ⟨h, h3⟩ := and3 h
        obtain ⟨h1, h2⟩ := and3 h
        rcases Bool.or_eq_true_iff.mp h3 with h3 | h3
        · exact lc_asg G h1 h2 h3
        · obtain ⟨g1, g2, g3, g4⟩ := setB_ok G h1
          exact ss_asg g1 g2 g3 g4 (sw_diff G h3) (soE _ G _ h2)
      · by_cases hc2 : ∃ it tg c it1 tg1 c1 e' vs vs1, e = .comp2 it tg c it1 tg1 c1 e' vs vs1
        · obtain ⟨it, tg, c, it1, tg1, c1, e', vs, vs1, rfl⟩ := hc2
          obtain ⟨h, h3⟩ := and3 h
          obtain ⟨h1, h2⟩ := and3 h
          rcases Bool.or_eq_true_iff.mp h3 with h3 | h3
          · exact lc_asg2 G h1 h2 h3
          · obtain ⟨g1, g2, g3, g4⟩ := setB_ok G h1
            exact ss_asg g1 g2 g3 g4 (sw_diff G h3) (soE _ G _ h2)
        · have h' : (setB N as i x && notLc ea && chkE B N lv sc e ea) = true := by
            cases e <;> first | exact absurd ⟨_, _, _, _, _, rfl⟩ hc | exact absurd ⟨_, _, _, _, _, _, _, _, _, rfl⟩ hc2 | exact h
          obtain ⟨h, h3⟩ := and3 h'
          obtain ⟨h1, h2⟩ := and3 h
          obtain ⟨g1, g2, g3, g4⟩ := setB_ok G h1
          exact ss_asg g1 g2 g3 g4 (sw_no h2) (soE e G _ h3)
  | .tgt t e, st, h => by
    cases st <;> first | exact (Bool.false_ne_true h).elim | skip
    rename_i tgs ea pos
    match tgs, h with
    | [], h => exact (Bool.false_ne_true h).elim
    | u :: _ :: _, h => cases u <;> exact (Bool.false_ne_true h).elim
    | [u], h =>
      cases u <;> first | exact (Bool.false_ne_true h).elim | skip
      obtain ⟨h, h3⟩ := and3 h
      obtain ⟨h1, h2⟩ := and3 h
      refine ss_tgt sole_tup ?_ rfl (soE e G _ h3) (soTg t G _ h1)
      rcases Bool.or_eq_true_iff.mp h2 with h2 | h2
      · exact sto_tup h2
      · exact sto_cell G h2
  | .par i j a b, st, h => by
    cases st <;> first | exact (Bool.false_ne_true h).elim | skip
    rename_i tgs v pos
    have h : (match parOf tgs v with | some ((x, px), (y, py), ea, eb) => setB N as i x && setB N as j y && !(i == j) && parB sc x y px py ea eb && chkE B N lv sc a ea && chkE B N lv sc b eb | none => false) = true := h
    split at h
    · rename_i x px y py ea eb e
      obtain ⟨k1, p1, k2, p2, rfl, rfl⟩ := parOf_ok e
      obtain ⟨h, h6⟩ := and3 h
      obtain ⟨h, h5⟩ := and3 h
      obtain ⟨h, h4⟩ := and3 h
      obtain ⟨h, h3⟩ := and3 h
      obtain ⟨h1, h2⟩ := and3 h
      obtain ⟨g1, g2, _, _⟩ := setB_ok G h1
      obtain ⟨_, q2, _, _⟩ := setB_ok G h2
      obtain ⟨p1, _⟩ := and3 h4
      obtain ⟨p1, _⟩ := and3 p1
      obtain ⟨p1, p8⟩ := and3 p1
      obtain ⟨p1, p7⟩ := and3 p1
      obtain ⟨p1, _⟩ := and3 p1
      obtain ⟨p1, _⟩ := and3 p1
      obtain ⟨p1, p3⟩ := and3 p1
      obtain ⟨p1, p2⟩ := and3 p1
      exact ss_par G.calm g1 g2 q2 (by simpa using h3) (loc_kind G p2) (loc_kind G p3) (par_sw G h4) p7 p8 (soE a G _ h5) (soE b G _ h6)
    · cases h
  | .setix l k e, st, h => by
    cases st <;> first | exact (Bool.false_ne_true h).elim | skip
    rename_i tgs ea pos
    match tgs, h with
    | [], h => exact (Bool.false_ne_true h).elim
    | u :: _ :: _, h => cases u <;> exact (Bool.false_ne_true h).elim
    | [u], h =>
      cases u <;> first | exact (Bool.false_ne_true h).elim | skip
      obtain ⟨h, h4⟩ := and3 h
      obtain ⟨h, h3⟩ := and3 h
      obtain ⟨h1, h2⟩ := and3 h
      obtain ⟨g1, g2⟩ := chkL_ok G h1
      exact ss_setix g1 h2 g2 (soE k G _ h3) (soE e G _ h4)
  | .setix2 l k l' k' e, st, h => by
    cases st <;> first | exact (Bool.false_ne_true h).elim | skip
    rename_i tgs ea pos
    match tgs, h with
    | [], h => exact (Bool.false_ne_true h).elim
    | [u], h => cases u <;> exact (Bool.false_ne_true h).elim
    | u :: v :: _ :: _, h => cases u <;> first | exact (Bool.false_ne_true h).elim | (cases v <;> exact (Bool.false_ne_true h).elim)
    | [u, v], h =>
      cases u <;> first | exact (Bool.false_ne_true h).elim | skip
      cases v <;> first | exact (Bool.false_ne_true h).elim | skip
      obtain ⟨h, h7⟩ := and3 h
      obtain ⟨h, h6⟩ := and3 h
      obtain ⟨h, h5⟩ := and3 h
      obtain ⟨h, h4⟩ := and3 h
      obtain ⟨h, h3⟩ := and3 h
      obtain ⟨h1, h2⟩ := and3 h
      obtain ⟨g1, g2⟩ := chkL_ok G h1
      obtain ⟨g3, g4⟩ := chkL_ok G h4
      exact ss_setix2 g1 g3 h2 h5 g2 (soE k G _ h3) g4 (soE k' G _ h6) (soE e G _ h7)
  | .augv i o e, st, h => by
    cases st <;> first | exact (Bool.false_ne_true h).elim | skip
    rename_i tg op ea pos
    cases tg <;> first | exact (Bool.false_ne_true h).elim | skip
    obtain ⟨h, h3⟩ := and3 h
    obtain ⟨h1, h2⟩ := and3 h
    obtain rfl := beq_iff_eq.mp h2
    obtain ⟨g1, g2, g3, g4⟩ := setB_ok G h1
    exact ss_augv G.eK g1 g2 g3 g4 (soE e G _ h3)
  | .augix l k o e, st, h => by
    cases st <;> first | exact (Bool.false_ne_true h).elim | skip
    rename_i tg op ea pos
    cases tg <;> first | exact (Bool.false_ne_true h).elim | skip
    obtain ⟨h, h5⟩ := and3 h
    obtain ⟨h, h4⟩ := and3 h
    obtain ⟨h, h3⟩ := and3 h
    obtain ⟨h1, h2⟩ := and3 h
    obtain rfl := beq_iff_eq.mp h3
    obtain ⟨g1, g2⟩ := chkL_ok G h1
    exact ss_augix g1 h2 g2 (soE k G _ h4) (soE e G _ h5)
  | .setfd i c f e, st, h => by
    cases st <;> first | exact (Bool.false_ne_true h).elim | skip
    rename_i tgs ea pos
    match tgs, h with
    | [], h => exact (Bool.false_ne_true h).elim
    | u :: _ :: _, h => cases u <;> first | exact (Bool.false_ne_true h).elim | (rename_i u _ _; cases u <;> exact (Bool.false_ne_true h).elim)
    | [u], h =>
      cases u <;> first | exact (Bool.false_ne_true h).elim | skip
      rename_i o s p
      cases o <;> first | exact (Bool.false_ne_true h).elim | skip
      obtain ⟨h, h4⟩ := and3 h
      obtain ⟨h, h3⟩ := and3 h
      obtain ⟨h1, h2⟩ := and3 h
      have e : C.nm f = some s := by rw [G.nm]; exact beq_iff_eq.mp h2
      exact ss_setfd G.eK G.inj e (G.na c f s (by simpa using h3) e) sw_attr (G.var h1) (soE _ G _ h4)
  | .mu m l es, st, h => by
    cases st <;> first | exact (Bool.false_ne_true h).elim | skip
    rename_i ea pos
    cases ea <;> first | exact (Bool.false_ne_true h).elim | skip
    rename_i fn eas kws cpos
    cases fn <;> first | exact (Bool.false_ne_true h).elim | skip
    match kws, h with
    | _ :: _, h => exact (Bool.false_ne_true h).elim
    | [], h =>
      obtain ⟨h, h6⟩ := and3 h
      obtain ⟨h, h5⟩ := and3 h
      obtain ⟨h, h4⟩ := and3 h
      obtain ⟨h, h3⟩ := and3 h
      obtain ⟨h1, h2⟩ := and3 h
      obtain ⟨g1, g2⟩ := chkL_ok G h5
      cases eas with
      | nil =>
        cases es with
        | cons _ _ => exact (Bool.false_ne_true h6).elim
        | nil => exact ss_mu0 (beq_iff_eq.mp h1) g1 G.eK (sup_of h2) h3 g2
      | cons a eas => exact ss_mu (beq_iff_eq.mp h1) g1 G.eK (sup_of h2) h3 (plainAll h6) (of_decide_eq_true h4) g2 (soEs es G _ h6)
  | .call d j ms es, st, h => by
    cases d with
    | none =>
      cases st <;> first | exact (Bool.false_ne_true h).elim | skip
      rename_i ea pos
      cases ea <;> first | exact (Bool.false_ne_true h).elim | skip
      rename_i fn eas kws cpos
      cases fn <;> first | exact (Bool.false_ne_true h).elim | skip
      match kws, h with
      | _ :: _, h => exact (Bool.false_ne_true h).elim
      | [], h =>
        obtain ⟨ea, eas', k, b, fd, fs, rfl, F, g1, g2, g3, g4, g5, g6, g7, g8, g9⟩ := call_ok G h
        exact ss_call F g1 g2 g3 g4 g5 g6 g7 g8 g9
    | some i =>
      cases st <;> first | exact (Bool.false_ne_true h).elim | skip
      rename_i tgs ea pos
      match tgs, h with
      | [], h => exact (Bool.false_ne_true h).elim
      | u :: _ :: _, h => cases u <;> exact (Bool.false_ne_true h).elim
      | [u], h =>
        cases u <;> first | exact (Bool.false_ne_true h).elim | skip
        obtain ⟨fn, eas, kws, cpos, rfl⟩ : ∃ fn eas kws cpos, ea = .Call fn eas kws cpos := by
          cases ea <;> first | exact (Bool.false_ne_true h).elim | exact ⟨_, _, _, _, rfl⟩
        cases fn <;> first | exact (Bool.false_ne_true h).elim | skip
        match kws, h with
        | _ :: _, h => exact (Bool.false_ne_true h).elim
        | [], h =>
          obtain ⟨h0, h⟩ := and3 h
          obtain ⟨q1, q2, q3, q4⟩ := setB_ok G h0
          obtain ⟨ea, eas', k, b, fd, fs, rfl, F, g1, g2, g3, g4, g5, g6, g7, g8, g9⟩ := call_ok G h
          exact ss_callD q1 q2 q3 q4 F g1 g2 g3 g4 g5 g6 g7 g8 g9
  | .mcall d c m j ms i es, st, h => by cases st <;> exact (Bool.false_ne_true h).elim
  | .mk i c j ms es, st, h => by cases st <;> exact (Bool.false_ne_true h).elim
  | .iff t a b, st, h => by
    cases st <;> first | exact (Bool.false_ne_true h).elim | skip
    obtain ⟨h, h3⟩ := and3 h
    obtain ⟨h1, h2⟩ := and3 h
    exact ss_if (soT t G _ h1).1 (soSs G po a _ h2) (soSs G po b _ h3)
  | .for_ t it b, st, h => by
    cases st <;> first | exact (Bool.false_ne_true h).elim | skip
    rename_i tg iter body els pos
    match els, h with
    | _ :: _, h => exact (Bool.false_ne_true h).elim
    | [], h =>
      obtain ⟨h, h4⟩ := and3 h
      obtain ⟨h, h3⟩ := and3 h
      obtain ⟨h1, h2⟩ := and3 h
      exact ss_for po G.calm (fold_of h2 _) (soI it false G iter tg h3) (soTg t G tg h1) (soSs G po b body h4)
  | .whil t b, st, h => by
    cases st <;> first | exact (Bool.false_ne_true h).elim | skip
    rename_i et body els pos
    match els, h with
    | _ :: _, h => exact (Bool.false_ne_true h).elim
    | [], h =>
      obtain ⟨h1, h2⟩ := and3 h
      exact ss_while po (soT t G _ h1).1 (soSs G po b body h2)
  | .ret e, st, h => by
    cases st <;> first | exact (Bool.false_ne_true h).elim | skip
    rename_i o pos
    cases o with
    | none => exact (Bool.false_ne_true h).elim
    | some ea => exact ss_ret (soE e G _ h)
  | .retN, st, h => by
    cases st <;> first | exact (Bool.false_ne_true h).elim | skip
    rename_i o pos
    cases o with
    | some _ => exact (Bool.false_ne_true h).elim
    | none => exact ss_retN
  | .brk, st, h => by
    cases st <;> first | exact (Bool.false_ne_true h).elim | skip
    exact ss_brk
  | .cont, st, h => by
    cases st <;> first | exact (Bool.false_ne_true h).elim | skip
    exact ss_cont
  | .raise, st, h => ss_raise
  | .retF e, st, h => by
    cases st <;> first | exact (Bool.false_ne_true h).elim | skip
    rename_i v _
    match v, h with
    | none, h => exact (Bool.false_ne_true h).elim
    | some ea, h => exact ss_retF (soE e G _ h)
  | .retO i, st, h => by
    cases st <;> first | exact (Bool.false_ne_true h).elim | skip
    rename_i v _
    match v, h with
    | none, h => exact (Bool.false_ne_true h).elim
    | some ea, h =>
      cases ea <;> first | exact (Bool.false_ne_true h).elim | skip
      exact ss_retO (G.var h)
  | .frz i, st, h => by cases st <;> exact (Bool.false_ne_true h).elim
theorem soSs (G : GX B C sp N lv sc as X) (po : PassesOwn (model X.prog X.w) X.A X.env X.xe) : ∀ (s : Ss) (st : List Stmt), chkSs B N lv sc as s st = true → PSs X st (tSs C sp s)
  | .nil, st, h => by
    cases st with
    | nil => exact ss_nil
    | cons _ _ => exact (Bool.false_ne_true h).elim
  | .cons s r, sts, h => by
    by_cases hf : ∃ i, s = .frz i
    · obtain ⟨i, rfl⟩ := hf
      have h' : chkSs B N lv sc as r sts = true := by cases sts <;> exact h
      exact ss_frz (soSs G po r sts h')
    · cases sts with
      | nil => cases s <;> first | exact absurd ⟨_, rfl⟩ hf | exact (Bool.false_ne_true h).elim
      | cons st sts =>
        have h' : (chkS B N lv sc as s st && chkSs B N lv sc as r sts) = true := by cases s <;> first | exact absurd ⟨_, rfl⟩ hf | exact h
        obtain ⟨h1, h2⟩ := and3 h'
        exact ss_cons (soS G po s st h1) (soSs G po r sts h2)
end
end
end Lh
set_option maxHeartbeats 200000
/-! E22: each def of the text keeps its promise. -/
namespace Lh
open PySem PySem.Spec PyProof.Rows L2
/-! ### the start of a body -/
theorem initE_len : ∀ {ms : List Md} {ts : List OV} {e : Env}, initE ms ts = some e → e.length = ms.length
  | [], ts, e, h => by
    cases ts with
    | nil => cases h; rfl
    | cons _ _ => cases h
  | m :: ms, ts, e, h => by
    cases ts with
    | nil => cases m <;> cases h
    | cons t ts =>
      cases m <;> cases t <;> first | (cases h; done) | skip
      all_goals
        simp only [initE, Option.map_eq_some_iff] at h
        obtain ⟨e', h1, rfl⟩ := h
        rw [List.length_cons, List.length_cons, initE_len h1]
/-- slot by slot at the start -/
theorem init_sl {C : Cn} {O : Addr → Prop} {H : Hp} : ∀ {ms : List Md} {ts : List OV} {vs : List V} {fs : List (List Addr)} {e : Env}, initE ms ts = some e → ArgsR C O H ms ts vs fs → fs.length = ms.length ∧ ∀ i, i < ms.length → ∃ s v f m, e[i]? = some s ∧ vs[i]? = some v ∧ fs[i]? = some f ∧ ms[i]? = some m ∧ SlR C O H s (some v) f ∧ isOw s = false ∧ (isIo s = true → m = .io)
  | [], ts, vs, fs, e, h, a => by
    obtain ⟨_, _, rfl⟩ := a
    exact ⟨rfl, fun i z => by cases z⟩
  | m :: ms, ts, vs, fs, e, h, a => by
    obtain ⟨t, ts', v, vs', f, fs', rfl, rfl, rfl, a1, a2⟩ := a
    have step : ∀ s e', initE ms ts' = some e' → e = s :: e' → SlR C O H s (some v) f → isOw s = false → (isIo s = true → m = .io) → (f :: fs').length = (m :: ms).length ∧ ∀ i, i < (m :: ms).length → ∃ s v' f' m', e[i]? = some s ∧ (v :: vs')[i]? = some v' ∧ (f :: fs')[i]? = some f' ∧ (m :: ms)[i]? = some m' ∧ SlR C O H s (some v') f' ∧ isOw s = false ∧ (isIo s = true → m' = .io) := by
      intro s e' h1 h2 h3 h4 h5
      subst h2
      obtain ⟨q1, q2⟩ := init_sl h1 a2
      refine ⟨by rw [List.length_cons, List.length_cons, q1], fun i hi => ?_⟩
      cases i with
      | zero => exact ⟨s, v, f, m, rfl, rfl, rfl, rfl, h3, h4, h5⟩
      | succ i => simpa using q2 i (by simpa using hi)
    cases m with
    | va =>
      cases t with
      | fz p =>
        simp only [initE, Option.map_eq_some_iff] at h
        obtain ⟨e', h1, rfl⟩ := h
        exact step _ e' h1 rfl ⟨v, rfl, a1.1, a1.2⟩ rfl (fun z => nomatch z)
      | lst _ => cases h
      | obj _ _ => cases h
    | bo =>
      have h' : (initE ms ts').map (Slot.bo t :: ·) = some e := by cases t <;> exact h
      simp only [Option.map_eq_some_iff] at h'
      obtain ⟨e', h1, rfl⟩ := h'
      exact step _ e' h1 rfl ⟨v, rfl, a1⟩ rfl (fun z => nomatch z)
    | io =>
      cases t with
      | fz p => cases h
      | lst l =>
        simp only [initE, Option.map_eq_some_iff] at h
        obtain ⟨e', h1, rfl⟩ := h
        exact step _ e' h1 rfl ⟨v, rfl, a1.1, a1.2⟩ rfl (fun _ => rfl)
      | obj c l =>
        simp only [initE, Option.map_eq_some_iff] at h
        obtain ⟨e', h1, rfl⟩ := h
        exact step _ e' h1 rfl ⟨v, rfl, a1.1, a1.2⟩ rfl (fun _ => rfl)
theorem flat_dis : ∀ {fs : List (List Addr)} {i j : Nat} {f g : List Addr} {a : Addr}, fs.flatten.Nodup → i ≠ j → fs[i]? = some f → fs[j]? = some g → a ∈ f → a ∉ g
  | [], i, j, f, g, a, n, ne, h1, h2 => by simp at h1
  | x :: fs, i, j, f, g, a, n, ne, h1, h2 => by
    rw [List.flatten_cons, List.nodup_append] at n
    intro m1 m2
    cases i with
    | zero =>
      cases j with
      | zero => exact ne rfl
      | succ j =>
        simp at h1 h2
        subst h1
        exact n.2.2 a m1 a (List.mem_flatten.mpr ⟨g, List.mem_of_getElem? h2, m2⟩) rfl
    | succ i =>
      cases j with
      | zero =>
        simp at h1 h2
        subst h2
        exact n.2.2 a m2 a (List.mem_flatten.mpr ⟨f, List.mem_of_getElem? h1, m1⟩) rfl
      | succ j =>
        simp at h1 h2
        exact flat_dis n.2.1 (fun z => ne (by rw [z])) h1 h2 m1 m2
/-- the addresses that the i-th argument may change -/
def ioAt (ms : List Md) (fs : List (List Addr)) (i : Nat) (a : Addr) : Prop := ms[i]? = some .io ∧ ∃ f, fs[i]? = some f ∧ a ∈ f
theorem ioAt_ioF : ∀ {ms : List Md} {fs : List (List Addr)} {a : Addr}, (∃ i, ioAt ms fs i a) → IoF ms fs a
  | [], _, _, ⟨i, h, _⟩ => by simp at h
  | m :: ms, [], _, ⟨i, _, f, h, _⟩ => by simp at h
  | m :: ms, f :: fs, a, ⟨i, h1, g, h2, h3⟩ => by
    cases i with
    | zero =>
      simp at h1 h2
      subst h1 h2
      exact .inl h3
    | succ i =>
      have q := ioAt_ioF (ms := ms) (fs := fs) (a := a) ⟨i, by simpa using h1, g, by simpa using h2, h3⟩
      cases m with
      | io => exact .inr q
      | va => exact q
      | bo => exact q
def fpOf (fs : List (List Addr)) (i : Nat) : List Addr := fs.getD i []
theorem fpOf_some {fs : List (List Addr)} {i : Nat} {f : List Addr} (h : fs[i]? = some f) : fpOf fs i = f := by unfold fpOf; rw [List.getD_eq_getElem?_getD, h]; rfl
theorem fpOf_none {fs : List (List Addr)} {i : Nat} (h : fs.length ≤ i) : fpOf fs i = [] := by unfold fpOf; rw [List.getD_eq_getElem?_getD, List.getElem?_eq_none h]; rfl
/-- the state at the entry -/
theorem si_start {C : Cn} {O : Addr → Prop} {H : Hp} {ms : List Md} {ts : List OV} {vs : List V} {fs : List (List Addr)} {e : Env} {N : List Str} (h : initE ms ts = some e) (a : ArgsR C O H ms ts vs fs) (nd : fs.flatten.Nodup) (inO : ∀ x ∈ fs.flatten, O x) (dm : DomO O H) (hN : vs.length ≤ N.length) :
    SI C ⟨H, O, ioAt ms fs, fun _ => True, fun i => vs[i]?⟩ O (e ++ List.replicate (N.length - e.length) .u) (L2.start N vs) H (fpOf fs) := by
  obtain ⟨q1, q2⟩ := init_sl h a
  have le := initE_len h
  have lv := a.len
  have lt : (e ++ List.replicate (N.length - e.length) Slot.u).length = N.length := by
    rw [List.length_append, List.length_replicate]; omega
  have mem : ∀ i x, x ∈ fpOf fs i → ∃ f, fs[i]? = some f ∧ x ∈ f ∧ i < ms.length := fun i x m => by
    by_cases hi : i < fs.length
    · rw [fpOf_some (List.getElem?_eq_getElem hi)] at m
      exact ⟨_, List.getElem?_eq_getElem hi, m, by omega⟩
    · rw [fpOf_none (by omega)] at m; cases m
  have env_at : ∀ i s, (e ++ List.replicate (N.length - e.length) Slot.u)[i]? = some s → (i < ms.length ∧ e[i]? = some s) ∨ (ms.length ≤ i ∧ s = .u) := fun i s e1 => by
    by_cases hi : i < e.length
    · rw [List.getElem?_append_left hi] at e1
      exact .inl ⟨by omega, e1⟩
    · rw [List.getElem?_append_right (by omega)] at e1
      have := List.mem_of_getElem? e1
      exact .inr ⟨by omega, (List.mem_replicate.mp this).2⟩
  refine ⟨?_, ?_, ?_, ?_, ?_, dm, dm, fun _ o => o, fun _ _ n e => ⟨n, e⟩, fun _ _ _ _ e => e, ?_, ?_, ?_, fun _ _ _ => trivial, ?_⟩
  · rw [lt]; unfold L2.start; rw [List.length_append, List.length_map, List.length_replicate]; omega
  · intro i s x e1 e2
    rcases env_at i s e1 with ⟨hi, e3⟩ | ⟨hi, rfl⟩
    · obtain ⟨s', v, f, m, p1, p2, p3, p4, p5, _, _⟩ := q2 i hi
      rw [p1] at e3; cases e3
      have : x = some v := by
        unfold L2.start at e2
        rw [List.getElem?_append_left (by rw [List.length_map]; omega), List.getElem?_map, p2] at e2
        cases e2; rfl
      rw [this, fpOf_some p3]
      exact p5
    · exact fpOf_none (by omega)
  · intro i
    by_cases hi : i < fs.length
    · rw [fpOf_some (List.getElem?_eq_getElem hi)]
      exact nodup_mem nd (List.getElem_mem hi)
    · rw [fpOf_none (by omega)]; exact List.nodup_nil
  · intro i j x ne m1 m2
    obtain ⟨f, h1, h2, _⟩ := mem i x m1
    obtain ⟨g, h3, h4, _⟩ := mem j x m2
    exact flat_dis nd ne h1 h3 h2 h4
  · intro i x m
    obtain ⟨f, h1, h2, _⟩ := mem i x m
    exact inO x (List.mem_flatten.mpr ⟨f, List.mem_of_getElem? h1, h2⟩)
  · intro i s x e1 w m
    rcases env_at i s e1 with ⟨hi, e3⟩ | ⟨hi, rfl⟩
    · obtain ⟨s', v, f, m', p1, p2, p3, p4, p5, p6, _⟩ := q2 i hi
      rw [p1] at e3; cases e3
      rw [p6] at w; cases w
    · cases w
  · intro i s x e1 w m
    rcases env_at i s e1 with ⟨hi, e3⟩ | ⟨hi, rfl⟩
    · obtain ⟨s', v, f, m', p1, p2, p3, p4, p5, _, p7⟩ := q2 i hi
      rw [p1] at e3; cases e3
      rw [fpOf_some p3] at m
      exact .inl ⟨by rw [p4, p7 w], f, p3, m⟩
    · cases w
  · intro i hi
    rw [lt] at hi
    exact fpOf_none (by omega)
  · intro i s e1 w
    rcases env_at i s e1 with ⟨hi, e3⟩ | ⟨hi, rfl⟩
    · obtain ⟨s', v, f, m', p1, p2, _⟩ := q2 i hi
      unfold L2.start
      rw [List.getElem?_append_left (by rw [List.length_map]; omega), List.getElem?_map, p2]
      show some (some v) = some (vs[i]?)
      rw [p2]
    · cases w
/-! ### the end of a body -/
theorem outs_at {C : Cn} {cc : CC} {O : Addr → Prop} {H : Hp} {σ : L2.St} {fp : Nat → List Addr} {env : Env} (I : SI C cc O env σ H fp) : ∀ {ms : List Md} {n : Nat} {e : Env} {os : List OV} {vs : List V}, outs ms e = some os → (∀ i, e[i]? = env[n + i]?) → vs.length = ms.length → (∀ i v, vs[i]? = some v → cc.v0 (n + i) = some v) →
    ∃ gs, OutsR C O H ms os vs gs ∧ gs.length = ms.length ∧ ∀ i g, gs[i]? = some g → ∀ a ∈ g, a ∈ fp (n + i) ∧ ms[i]? = some .io ∧ g = fp (n + i) ∧ ∃ s, env[n + i]? = some s ∧ isIo s = true
  | [], n, e, os, vs, h, he, hl, hk => by
    cases h
    exact ⟨[], ⟨rfl, rfl⟩, rfl, fun i g z => by simp at z⟩
  | m :: ms, n, e, os, vs, h, he, hl, hk => by
    cases vs with
    | nil => simp at hl
    | cons v vs =>
      cases e with
      | nil => cases m <;> cases h
      | cons s e =>
        have he' : ∀ i, e[i]? = env[n + 1 + i]? := fun i => by
          have := he (i + 1)
          rw [show n + 1 + i = n + (i + 1) by omega]
          simpa using this
        have hk' : ∀ i v, vs[i]? = some v → cc.v0 (n + 1 + i) = some v := fun i w h2 => by
          rw [show n + 1 + i = n + (i + 1) by omega]
          exact hk (i + 1) w (by simpa using h2)
        have plain : (m = .va ∨ m = .bo) → outs ms e = some os → ∃ gs, OutsR C O H (m :: ms) os (v :: vs) gs ∧ gs.length = (m :: ms).length ∧ ∀ i g, gs[i]? = some g → ∀ a ∈ g, a ∈ fp (n + i) ∧ (m :: ms)[i]? = some .io ∧ g = fp (n + i) ∧ ∃ s, env[n + i]? = some s ∧ isIo s = true := fun hm ho => by
          obtain ⟨gs, g1, g2, g3⟩ := outs_at I (n := n + 1) ho he' (by simpa using hl) hk'
          refine ⟨[] :: gs, ?_, by simp [g2], fun i g z a ma => ?_⟩
          · rcases hm with rfl | rfl <;> exact ⟨v, vs, gs, rfl, rfl, g1⟩
          · cases i with
            | zero => simp at z; subst z; cases ma
            | succ i =>
              have := g3 i g (by simpa using z) a ma
              rw [show n + 1 + i = n + (i + 1) by omega] at this
              simpa using this
        cases m with
        | va => exact plain (.inl rfl) (by cases s <;> exact h)
        | bo => exact plain (.inr rfl) (by cases s <;> exact h)
        | io =>
          cases s <;> first | (cases h; done) | skip
          rename_i t
          have h' : (outs ms e).map (t :: ·) = some os := h
          rw [Option.map_eq_some_iff] at h'
          obtain ⟨os', h1, rfl⟩ := h'
          obtain ⟨gs, g1, g2, g3⟩ := outs_at I (n := n + 1) h1 he' (by simpa using hl) hk'
          have e0 : env[n]? = some (.io t) := by have := he 0; simpa using this.symm
          obtain ⟨x, hx, w, rfl, o1, o2⟩ := slot_of I e0
          have hv := hk 0 v rfl
          have hz := I.i0 n _ e0 rfl
          simp only [Nat.add_zero] at hv
          rw [hv] at hz
          rw [hz] at hx; cases hx
          refine ⟨fp n :: gs, ⟨t, os', v, vs, fp n, gs, rfl, rfl, rfl, ⟨o1, o2⟩, g1⟩, by simp [g2], fun i g z a ma => ?_⟩
          cases i with
          | zero => simp at z; subst z; exact ⟨ma, rfl, rfl, .io t, e0, rfl⟩
          | succ i =>
            have := g3 i g (by simpa using z) a ma
            rw [show n + 1 + i = n + (i + 1) by omega] at this
            simpa using this
theorem flat_nd {fp : Nat → List Addr} (nd : ∀ i, (fp i).Nodup) (dis : ∀ i j a, i ≠ j → a ∈ fp i → a ∉ fp j) : ∀ {gs : List (List Addr)} {n : Nat}, (∀ i g, gs[i]? = some g → ∀ a ∈ g, a ∈ fp (n + i) ∧ g = fp (n + i)) → gs.flatten.Nodup
  | [], _, _ => List.nodup_nil
  | g :: gs, n, h => by
    rw [List.flatten_cons, List.nodup_append]
    refine ⟨?_, flat_nd nd dis (n := n + 1) (fun i g' z a m => ?_), fun a m b m2 z => ?_⟩
    · cases g with
      | nil => exact List.nodup_nil
      | cons a r => rw [(h 0 _ rfl a (by simp)).2]; exact nd _
    · have := h (i + 1) g' (by simpa using z) a m
      rw [show n + 1 + i = n + (i + 1) by omega]; exact this
    · subst z
      obtain ⟨g', h1, h2⟩ := List.mem_flatten.mp m2
      obtain ⟨i, hi, e⟩ := List.mem_iff_getElem.mp h1
      have h3 := (h (i + 1) g' (by simp [List.getElem?_eq_getElem hi, e]) a h2).1
      have h4 := (h 0 g rfl a m).1
      exact dis _ _ a (by omega) h4 h3
theorem subL_of {H : Hp} : ∀ {fs gs : List (List Addr)}, fs.length = gs.length → (∀ (i : Nat) (f g : List Addr), fs[i]? = some f → gs[i]? = some g → ∀ a ∈ g, a ∈ f ∨ H a = none) → SubL H fs gs
  | [], [], _, _ => trivial
  | [], _ :: _, h, _ => by simp at h
  | _ :: _, [], h, _ => by simp at h
  | f :: fs, g :: gs, h, k => ⟨k 0 f g rfl rfl, subL_of (by simpa using h) fun i f' g' h1 h2 => k (i + 1) f' g' (by simpa using h1) (by simpa using h2)⟩
section
variable {C : Cn} {sp : SpT}
theorem post_of {O O' : Addr → Prop} {H H' : Hp} {ms : List Md} {vs : List V} {fs : List (List Addr)} {env : Env} {σ : L2.St} {os : List OV} {p : PV} {v : V} (fl : fs.length = ms.length) (vl : vs.length = ms.length) (A : At C ⟨H, O, ioAt ms fs, fun _ => True, fun i => vs[i]?⟩ O' env σ H') {w : Bool} (h : outs ms env = some os) (hr : Rep C O' H' p v) (hw : w = true → FrL C O' H H' p v) : ∃ gs, PostC C w O H O' H' ms fs gs os vs p v := by
  obtain ⟨fp, I⟩ := A.ex
  obtain ⟨gs, g1, g2, g3⟩ := outs_at I (n := 0) h (fun i => by rw [Nat.zero_add]) vl (fun i w e => by rw [Nat.zero_add]; exact e)
  refine ⟨gs, I.up, fun a o => ?_, I.dom, fun b x n e => ?_, hr, g1, ?_, ?_, fun a m => ?_, hw⟩
  · by_cases h0 : O a
    · exact .inl h0
    · cases e : H a with
      | none => exact .inr rfl
      | some x => exact absurd o (I.fr1 a x h0 e).1
  · by_cases h0 : O b
    · exact I.fr2 b x h0 (fun i z => n (ioAt_ioF ⟨i, z⟩)) e
    · exact (I.fr1 b x h0 e).2
  · exact flat_nd I.nd I.dis (n := 0) fun i g z a m => ⟨(g3 i g z a m).1, (g3 i g z a m).2.2.1⟩
  · refine subL_of (by rw [fl, g2]) fun i f g z1 z2 a m => ?_
    obtain ⟨q1, q2, _, s, q3, q4⟩ := g3 i g z2 a m
    rcases I.ios _ s a q3 q4 q1 with ⟨_, f', z3, z4⟩ | z
    · rw [Nat.zero_add, z1] at z3
      cases z3
      exact .inl z4
    · exact .inr z
  · obtain ⟨g, m1, m2⟩ := List.mem_flatten.mp m
    obtain ⟨i, hi, e⟩ := List.mem_iff_getElem.mp m1
    exact I.inO _ a (g3 i g (by rw [List.getElem?_eq_getElem hi, e]) a m2).1
/-- THE RULE for a def -/
theorem def_run {X : Cx} {j : Nat} {ms : List Md} {N : List Str} {b : Ss} {body : List Stmt} {vs : List V} {H : Hp} {Q : VK} {E : XK} (hb : PSs X body (tSs C sp b)) (hN : ms.length ≤ N.length) (hsp : ∀ ts R, sp j ts R → evDf (C.ow j) sp ms N.length b ts R) (h : spF C sp j ms vs H Q E) :
    ∃ t, PSs X body t ∧ t { nx := fun _ H' => Q .non H', rt := Q } (L2.start N vs) H := by
  obtain ⟨O, ts, fs, Qp, a, nd, inO, dm, h, k⟩ := h
  have h' := hsp _ _ h
  cases hw : C.ow j with
  | true =>
    rw [hw] at h' k
    obtain ⟨e0, h1, h2⟩ := h'
    have le := initE_len h1
    refine ⟨_, hb, _, O, _, _, ⟨_, si_start h1 a nd inO dm (by rw [a.len]; exact hN)⟩, fun _ => trivial, h2, fun r hr => ?_⟩
    have fl := (init_sl h1 a).1
    cases r with
    | ro l e =>
      obtain ⟨os, q1, q2⟩ := hr
      intro O' σ' H' v A x rp fr
      obtain ⟨gs, po⟩ := post_of (w := true) fl a.len A q1 rp (fun _ => fr)
      exact k _ _ _ _ _ _ q2 po
    | nx e => exact hr.elim
    | rt p e => exact hr.elim
    | bk e => exact hr.elim
    | ct e => exact hr.elim
  | false =>
    rw [hw] at h' k
    obtain ⟨e0, h1, h2⟩ := h'
    have le := initE_len h1
    refine ⟨_, hb, _, O, _, _, ⟨_, si_start h1 a nd inO dm (by rw [a.len]; exact hN)⟩, fun _ => trivial, h2, fun r hr => ?_⟩
    have fl := (init_sl h1 a).1
    cases r with
    | nx e =>
      obtain ⟨os, q1, q2⟩ := hr
      intro O' σ' H' A x
      obtain ⟨gs, po⟩ := post_of (w := false) fl a.len A q1 (p := .non) (v := .non) rfl (fun z => nomatch z)
      exact k _ _ _ _ _ _ q2 po
    | rt p e =>
      obtain ⟨os, q1, q2⟩ := hr
      intro O' σ' H' v A x rp
      obtain ⟨gs, po⟩ := post_of (w := false) fl a.len A q1 rp (fun z => nomatch z)
      exact k _ _ _ _ _ _ q2 po
    | ro l e =>
      obtain ⟨os, q1, q2⟩ := hr
      intro O' σ' H' v A x rp fr
      obtain ⟨gs, po⟩ := post_of (w := false) fl a.len A q1 rp (fun z => nomatch z)
      exact k _ _ _ _ _ _ q2 po
    | bk e => exact hr.elim
    | ct e => exact hr.elim
end
end Lh
/-! E23: the whole text. -/
namespace Lh
open PySem PySem.Spec PyProof.Rows L2
def fnScB (N ps : List Str) (sc : Scope) : Bool := isFun sc && !sc.isCoroutine && !sc.isGenerator && decide N.Nodup && (N.take ps.length == ps) && (ps.all fun x => locB sc x) && (sc.names.all fun y => match y.2 with | .free => false | _ => true)
def asN (N : List Str) (sc : Scope) : List Str := N.filter (locB sc)
def chkDef (B : Tab) (f : FnS) (d : He.DefD) : Bool := d.at_ == atOf B f && fnScB f.N f.ps d.scope && f.ps.length == f.ms.length && decide (f.ms.length ≤ f.N.length) && d.dfl.isEmpty && chkSs B f.N f.lv d.scope (asN f.N d.scope) f.body d.body
def clsB (B : Tab) (f : FnS) : Bool := match f.cls with
  | none => true
  | some c => decide (c < B.cl.length)
def glB2 (B : Tab) : Bool := B.gl.all fun q => match q.2 with | .str _ => true | .int _ => true | _ => false
def cnOf (B : Tab) (K : PySem.W.Frag) : Cn := ⟨K, fun c => He.ga K (clN B c), fun i => B.nm[i]?, List.range B.cl.length, fun j => match B.fn[j]? with | some f => f.own | none => false⟩
theorem clN_mem {B : Tab} {c : Nat} (h : c < B.cl.length) : clN B c ∈ B.cl := by
  unfold clN
  rw [List.getD_eq_getElem?_getD, List.getElem?_eq_getElem h]
  exact List.getElem_mem h
theorem clN_eq {B : Tab} (nd : B.cl.Nodup) {c d : Nat} (h : c < B.cl.length) (k : d < B.cl.length) : (clN B c == clN B d) = (c == d) := by
  unfold clN
  rw [List.getD_eq_getElem?_getD, List.getD_eq_getElem?_getD, List.getElem?_eq_getElem h, List.getElem?_eq_getElem k]
  show (B.cl[c] == B.cl[d]) = (c == d)
  by_cases e : c = d
  · subst e; rw [beq_self_eq_true, beq_self_eq_true]
  · have : B.cl[c] ≠ B.cl[d] := fun z => e (nodup_ix nd (List.getElem?_eq_getElem h) (by rw [z]; exact List.getElem?_eq_getElem k))
    rw [beq_eq_false_iff_ne.mpr this, beq_eq_false_iff_ne.mpr e]
theorem isiF_of {B : Tab} {K : PySem.W.Frag} (nd : B.cl.Nodup) (h : isiB B.cl K = true) : IsiF (cnOf B K) := by
  obtain ⟨h, h5⟩ := and3 h
  obtain ⟨h, h4⟩ := and3 h
  obtain ⟨h, h3⟩ := and3 h
  obtain ⟨h1, h2⟩ := and3 h
  have lt : ∀ c, c ∈ (cnOf B K).cs → c < B.cl.length := fun c m => List.mem_range.mp m
  refine ⟨fun c hc => ?_, fun c hc d hd => ?_, fun c hc n hn => ?_, fun n hn d hd => ?_, fun c hc => List.all_eq_true.mp h5 _ (clN_mem (lt c hc))⟩
  · have m := clN_mem (lt c hc)
    obtain ⟨q1, q2⟩ := and3 (List.all_eq_true.mp h1 _ m)
    have ne : B.cl.isEmpty = false := by
      cases e : B.cl with
      | nil => rw [e] at m; cases m
      | cons _ _ => rfl
    rw [ne, Bool.false_or] at h2
    obtain ⟨q3, q4⟩ := and3 h2
    exact ⟨of_decide_eq_true q1, of_decide_eq_true q3, of_decide_eq_true q4, of_decide_eq_true q2⟩
  · have := of_decide_eq_true (List.all_eq_true.mp (List.all_eq_true.mp h3 _ (clN_mem (lt c hc))) _ (clN_mem (lt d hd)))
    rw [clN_eq nd (lt c hc) (lt d hd)] at this
    exact this
  · exact of_decide_eq_true (and3 (List.all_eq_true.mp (List.all_eq_true.mp h4 _ (clN_mem (lt c hc))) n hn)).1
  · exact of_decide_eq_true (and3 (List.all_eq_true.mp (List.all_eq_true.mp h4 _ (clN_mem (lt d hd))) n hn)).2
theorem units65 {k : Nat} {A : Around} (r : Room k A) : A.units + 65 < cLine := by have := r.un; omega
/-! ### binding -/
def BindOk (d : He.DefD) (ps : List Str) : Prop := ∀ (kV doc pm : Value) (an : Option Addr) (cdv ct : Value) (us : List Value), us.length = ps.length → bindArgs (PySem.W.fnOf d.name d.qual d.params d.body d.scope .none kV doc pm an cdv ct) ⟨us, []⟩ = pure (ps.zip us)
def KwOk (d : He.DefD) (f : FnS) : Prop := ∀ (K : PySem.W.Frag) (a : Addr) (fd : FuncData), FunD K d.name d.qual d.params d.body d.scope [] (d.kws K) a fd → ∀ (X : Cx), X.K = K → ∀ kn sel, selB kn f.kwn f.dfl sel = true → f.kns.contains kn = true → KwB X fd f.ps (f.ps.length - sel.length) kn sel
/-- what the printed rows tell of each def -/
structure DefOk (B : Tab) (sp : SpT) (j : Nat) (f : FnS) (d : He.DefD) : Prop where
  bind : f.kwn = [] → BindOk d f.ps
  kw : KwOk d f
  sp : ∀ ts R, sp j ts R → evDf f.own sp f.ms f.N.length f.body ts R
def AllOk (B : Tab) (sp : SpT) : Nat → List FnS → List He.DefD → Prop
  | _, [], [] => True
  | n, f :: fs, d :: ds => DefOk B sp n f d ∧ AllOk B sp (n + 1) fs ds
  | _, _, _ => False
def chkAll (B : Tab) : List FnS → List He.DefD → Bool
  | [], [] => true
  | f :: fs, d :: ds => chkDef B f d && clsB B f && chkAll B fs ds
  | _, _ => false
theorem allOk_at {B : Tab} {sp : SpT} : ∀ {fs : List FnS} {ds : List He.DefD} {n : Nat}, AllOk B sp n fs ds → chkAll B fs ds = true → ∀ {i : Nat} {f : FnS}, fs[i]? = some f → ∃ d, ds[i]? = some d ∧ DefOk B sp (n + i) f d ∧ chkDef B f d = true ∧ clsB B f = true
  | [], [], n, _, _, i, f, e => by simp at e
  | f :: fs, d :: ds, n, h, c, i, g, e => by
    obtain ⟨h1, h2⟩ := h
    obtain ⟨c, c3⟩ := and3 c
    obtain ⟨c1, c2⟩ := and3 c
    cases i with
    | zero => simp at e; subst e; exact ⟨d, rfl, h1, c1, c2⟩
    | succ i =>
      obtain ⟨d', q1, q2, q3⟩ := allOk_at h2 c3 (i := i) (f := g) (by simpa using e)
      exact ⟨d', by simpa using q1, by rw [show n + (i + 1) = n + 1 + i by omega]; exact q2, q3⟩
  | [], _ :: _, n, h, _, _, _, _ => h.elim
  | _ :: _, [], n, h, _, _, _, _ => h.elim
/-- the static facts of a text, read off its heap -/
structure TxtOk (B : Tab) (ds : List He.DefD) (sp : SpT) (K : PySem.W.Frag) (mg : Str → Option Value) : Prop where
  says : He.SaysD (faOf B) ds K
  isi : isiB B.cl K = true
  heap : ∃ h : Heap, K.In h ∧ h.Ns mainGlobals mg
  cln : B.cl.Nodup
  nmn : B.nm.Nodup
  gl : glB2 B = true
  nal : (B.na.all fun p => decide (p.1 < B.cl.length) && decide (p.2 < B.nm.length)) = true
  chk : chkAll B B.fn ds = true
  ok : AllOk B sp 0 B.fn ds
section
variable {B : Tab} {ds : List He.DefD} {sp : SpT} {K : PySem.W.Frag} {mg : Str → Option Value}
theorem fa_fn {f : FnS} (h : f ∈ B.fn) : faF B f ∈ faOf B := List.mem_append_left _ (List.mem_map.mpr ⟨f, h, rfl⟩)
theorem fa_cls {x : Str} (h : x ∈ B.cl) : He.Fa.cls x ∈ faOf B := List.mem_append_right _ (List.mem_append_left _ (List.mem_map.mpr ⟨x, h, rfl⟩))
theorem fa_glo {x : Str} (h : x ∈ B.cl) : He.Fa.glo x ∈ faOf B := List.mem_append_right _ (List.mem_append_right _ (List.mem_append_left _ (List.mem_map.mpr ⟨x, h, rfl⟩)))
theorem fa_na {p : Nat × Nat} (h : p ∈ B.na) : He.Fa.noat (clN B p.1) (B.nm.getD p.2 "") ∈ faOf B := List.mem_append_right _ (List.mem_append_right _ (List.mem_append_right _ (List.mem_append_left _ (List.mem_map.mpr ⟨p, h, rfl⟩))))
theorem fa_free {x : Str} (h : x ∈ bltNames) : He.Fa.free x ∈ faOf B := List.mem_append_right _ (List.mem_append_right _ (List.mem_append_right _ (List.mem_append_right _ (List.mem_append_left _ (List.mem_map.mpr ⟨x, h, rfl⟩)))))
theorem fa_gl {q : Str × PV} (h : q ∈ B.gl) : faG q ∈ faOf B := List.mem_append_right _ (List.mem_append_right _ (List.mem_append_right _ (List.mem_append_right _ (List.mem_append_right _ (List.mem_map.mpr ⟨q, h, rfl⟩)))))
theorem TxtOk.cl (T : TxtOk B ds sp K mg) {c : Nat} (h : c < B.cl.length) : (cnOf B K).Cl c := ⟨List.mem_range.mpr h, He.cls_ok (T.says.facts (fa_cls (clN_mem h)))⟩
theorem TxtOk.glo_f (T : TxtOk B ds sp K mg) {f : FnS} (h : f ∈ B.fn) (hc : f.cls = none) : mg f.name = some (.ref (He.ga K f.name)) := by
  obtain ⟨hp, X, G⟩ := T.heap
  have := T.says.facts (fa_fn h)
  unfold faF at this
  rw [hc] at this
  exact He.glo_ok X G this
/-- each def keeps its promise -/
theorem TxtOk.fn (T : TxtOk B ds sp K mg) (P : Program) (w : World) (base : Heap) : ∀ (n j : Nat) (f : FnS) (d : He.DefD), B.fn[j]? = some f → ds[j]? = some d → f.lv < n →
    ∃ fd, FunD K d.name d.qual d.params d.body d.scope [] (d.kws K) (He.fAd K (atOf B f)) fd ∧ FnOk P w K mg base CX0 (2 * f.lv + 2) (He.fAd K (atOf B f)) fd f.ps (spF (cnOf B K) sp j f.ms) ∧ (f.kwn = [] → Binds K fd f.ps []) ∧
      ∀ (X : Cx), X.K = K → ∀ kn sel, selB kn f.kwn f.dfl sel = true → f.kns.contains kn = true → KwB X fd f.ps (f.ps.length - sel.length) kn sel
  | 0, _, _, _, _, _, h => by omega
  | n + 1, j, f, d, hf, hd, h => by
    obtain ⟨d', e, D, c, cl⟩ := allOk_at T.ok T.chk hf
    rw [hd] at e; cases e
    rw [Nat.zero_add] at D
    obtain ⟨c, c6⟩ := and3 c
    obtain ⟨c, c5⟩ := and3 c
    obtain ⟨c, c4⟩ := and3 c
    obtain ⟨c, c3⟩ := and3 c
    obtain ⟨c1, c2⟩ := and3 c
    have e1 : d.at_ = atOf B f := beq_iff_eq.mp c1
    obtain ⟨fd, F⟩ := T.says.def_ j hd
    have e2 : d.dvs K = [] := by
      unfold He.DefD.dvs
      rw [List.isEmpty_iff.mp c5]; rfl
    rw [e1, e2] at F
    obtain ⟨c2, s7⟩ := and3 c2
    obtain ⟨c2, s6⟩ := and3 c2
    obtain ⟨c2, s5⟩ := and3 c2
    obtain ⟨c2, s4⟩ := and3 c2
    obtain ⟨c2, s3⟩ := and3 c2
    obtain ⟨s1, s2⟩ := and3 c2
    have nd : f.N.Nodup := of_decide_eq_true s4
    have kind : d.scope.kind = .function := by
      unfold isFun at s1
      split at s1
      · assumption
      · cases s1
    have lb : ∀ x, locB d.scope x = true → L2.Loc d.scope x := fun x hx => by
      unfold locB at hx
      split at hx
      · exact .inl (by assumption)
      · exact .inr (by assumption)
      · cases hx
    have S : FnScope f.N f.ps d.scope := by
      refine ⟨kind, by simpa using s2, by simpa using s3, nd, beq_iff_eq.mp s5, fun x hx => lb x (List.all_eq_true.mp s6 x hx), fun y hy z => ?_⟩
      have := List.all_eq_true.mp s7 y hy
      simp only [z] at this
      cases this
    have pl : f.ps.length = f.ms.length := by simpa using c3
    obtain ⟨hp, XX, GG⟩ := T.heap
    refine ⟨fd, F, ?_, fun hk => FunD.bindsN F (D.bind hk), fun X hX kn sel => D.kw K _ fd F X hX kn sel⟩
    refine F.ok (k := 2 * f.lv + 1) S (fun vs H Q E q => ?_) (fun cdv A outer s H vs Q E hr q => ?_)
    · obtain ⟨O, ts, fs, Qp, a, _⟩ := q
      rw [a.len, pl]
    · have G : GX B (cnOf B K) sp f.N f.lv d.scope (asN f.N d.scope) (cxOf CX0 P w K mg base f.N d.qual d.scope (He.fAd K (atOf B f)) cdv A outer s H E).nox := {
        eK := rfl
        eN := rfl
        nd := nd
        eS := rfl
        calm := rfl
        hu := units65 hr
        asg := fun x hx => ⟨lb x (List.mem_filter.mp hx).2, .inl rfl⟩
        blt := fun x hx => He.free_ok XX GG (T.says.facts (fa_free hx))
        glo := fun k x p hk => by
          have hm := List.mem_of_getElem? hk
          have fc := T.says.facts (fa_gl hm)
          have g2 := List.all_eq_true.mp T.gl _ hm
          cases p <;> first | (cases g2; done) | skip
          · obtain ⟨t, e⟩ := He.int_ok XX GG (show (He.Fa.int x _).ok K = true from fc)
            exact ⟨.int _ t, .int _, e, ⟨t, rfl⟩, rfl⟩
          · obtain ⟨t, e⟩ := He.str_ok XX GG (show (He.Fa.str x _).ok K = true from fc)
            exact ⟨.str _ t, .str _, e, ⟨t, rfl⟩, rfl⟩
        nm := fun _ => rfl
        nmd := T.nmn
        isi := isiF_of T.cln T.isi
        cls := fun c x hc => by
          have hl : c < B.cl.length := (List.getElem?_eq_some_iff.mp hc).1
          have ex : clN B c = x := by
            unfold clN
            rw [List.getD_eq_getElem?_getD, hc]; rfl
          refine ⟨List.mem_range.mpr hl, ?_⟩
          have := He.glo_ok XX GG (T.says.facts (fa_glo (List.mem_of_getElem? hc)))
          show mg x = some (.ref (He.ga K (clN B c)))
          rw [ex]; exact this
        na := fun c g s' hm hs => by
          have := T.says.facts (fa_na hm)
          have e : B.nm.getD g "" = s' := by
            rw [List.getD_eq_getElem?_getD]
            show (B.nm[g]?).getD "" = s'
            rw [show B.nm[g]? = some s' from hs]; rfl
          rw [e] at this
          exact He.noat_ok this
        own := fun j f' hf' => by
          show (match B.fn[j]? with | some f => f.own | none => false) = f'.own
          rw [hf']
        calls := ⟨fun j' f' h1 h2 h3 => by
            obtain ⟨d', q1, _⟩ := allOk_at T.ok T.chk h1
            obtain ⟨fd', F', ok', b', kw'⟩ := TxtOk.fn T P w base n j' f' d' h1 q1 (by omega)
            have ea : He.fAd K (atOf B f') = He.ga K f'.name := by unfold atOf; rw [h3]; rfl
            refine ⟨_, _, fd', ok', hr.mono (by omega), ?_, F'.kp, b', fun kn sel => kw' _ rfl kn sel⟩
            rw [ea]
            exact T.glo_f (List.mem_of_getElem? h1) h3,
          fun j' f' c' h1 h2 h3 h4 => by
            obtain ⟨d', q1, _, _, cb⟩ := allOk_at T.ok T.chk h1
            obtain ⟨fd', F', ok', b', kw'⟩ := TxtOk.fn T P w base n j' f' d' h1 q1 (by omega)
            have ea : He.fAd K (atOf B f') = He.ma K (He.ga K (clN B c')) f'.name := by unfold atOf; rw [h3]; rfl
            have hl : c' < B.cl.length := by
              unfold clsB at cb
              rw [h3] at cb
              exact of_decide_eq_true cb
            have fc := T.says.facts (fa_fn (List.mem_of_getElem? h1))
            unfold faF at fc
            rw [h3] at fc
            simp only [if_neg h4] at fc
            refine ⟨_, _, fd', ok', hr.mono (by omega), ?_, T.cl hl, b'⟩
            rw [ea]
            exact He.meth_ok fc,
          fun j' f' c' h1 h2 h3 h4 => by
            obtain ⟨d', q1, _, _, cb⟩ := allOk_at T.ok T.chk h1
            obtain ⟨fd', F', ok', b', kw'⟩ := TxtOk.fn T P w base n j' f' d' h1 q1 (by omega)
            have ea : He.fAd K (atOf B f') = He.ma K (He.ga K (clN B c')) f'.name := by unfold atOf; rw [h3]; rfl
            have hl : c' < B.cl.length := by
              unfold clsB at cb
              rw [h3] at cb
              exact of_decide_eq_true cb
            have fc := T.says.facts (fa_fn (List.mem_of_getElem? h1))
            unfold faF at fc
            rw [h3] at fc
            simp only [if_pos h4] at fc
            refine ⟨_, _, fd', ok', hr.mono (by omega), ?_, T.cl hl, b', fun kn sel => kw' _ rfl kn sel⟩
            rw [ea, h4]
            exact He.mkr_ok fc⟩ }
      have po : PassesOwn (model P w) (A.deeper (envOfC d.qual d.scope s.heap.objs.size (He.fAd K (atOf B f)) cdv)) (envOfC d.qual d.scope s.heap.objs.size (He.fAd K (atOf B f)) cdv) (fun _ _ => False) := PassesOwn.never
      have body := PSs.nox (soSs G po f.body d.body c6)
      have eow : (cnOf B K).ow j = f.own := by
        show (match B.fn[j]? with | some f => f.own | none => false) = f.own
        rw [hf]
      exact def_run body (of_decide_eq_true c4) (by rw [eow]; exact D.sp) q
end
end Lh
namespace Lh
end Lh
/-! E25: keyword-only parameters, one of them or none -/
namespace Lh
open PySem PySem.Spec PyProof.Rows L2
theorem kwOk_none {d : He.DefD} {f : FnS} (h : f.kns = []) : KwOk d f := by
  intro K a fd F X hX kn sel h1 h2
  rw [h] at h2
  cases h2
theorem kwOk_one {d : He.DefD} {f : FnS} {s : Str} {p : PV} {v : V} (h1 : f.kwn = [s]) (h2 : f.dfl = [p]) (hv : cV p = some v) (hk : ∀ K, d.kws K = [(s, v)]) (hkn : ∀ kn, f.kns.contains kn = true → kn = [] ∨ kn = [s])
    (b0 : f.kns.contains [] = true → ∀ (D : Addr) (doc pm : Value) (an : Option Addr) (cdv ct : Value) (us : List Value) (m : Value), us.length = f.ps.length - 1 → KwChain D [(s, m)] (bindArgs (PySem.W.fnOf d.name d.qual d.params d.body d.scope .none (.ref D) doc pm an cdv ct) ⟨us, []⟩) (f.ps.zip (us ++ [m])))
    (b1 : f.kns.contains [s] = true → ∀ (D : Addr) (doc pm : Value) (an : Option Addr) (cdv ct : Value) (us : List Value) (m : Value), us.length = f.ps.length - 1 → bindArgs (PySem.W.fnOf d.name d.qual d.params d.body d.scope .none (.ref D) doc pm an cdv ct) ⟨us, [(s, m)]⟩ = pure (f.ps.zip (us ++ [m]))) : KwOk d f := by
  intro K a fd F X hX kn sel hs hc
  subst hX
  rw [h1, h2] at hs
  have hne : d.kws X.K ≠ [] := by rw [hk]; exact List.cons_ne_nil _ _
  rcases hkn kn hc with rfl | rfl
  · match sel, hs with
    | [.inr q], hs =>
      have hq : q = p := by
        have : eqC q p = true := by
          have h := (and3 hs).1
          exact (and3 h).2
        exact eqC_ok this
      subst hq
      obtain ⟨mv, kb⟩ := FunD.kbinds0 (ps := f.ps) F (f.ps.length - 1) [] [(s, v)] (fun us mv _ => us ++ mv) hne (by rw [hk]; exact fun q h => h) (fun r1 r2 _ => r1.append r2) (fun D doc pm an cdv ct us mv ws l1 l2 l3 => by
        match mv, l2 with
        | [m], _ =>
          have : ws = [] := List.eq_nil_of_length_eq_zero l3
          subst this
          exact b0 hc D doc pm an cdv ct us m l1)
      refine ⟨_, _, kb, fun vs zs l1 l2 => ⟨[v], ?_, rfl⟩⟩
      unfold pickV
      rw [hv]; rfl
    | [.inl i], hs => cases i <;> cases (and3 hs).1
    | [], hs => cases hs
    | .inr q :: _ :: _, hs => cases (and3 hs).2
    | .inl i :: _ :: _, hs => cases i <;> cases (and3 hs).1
  · match sel, hs with
    | [.inl 0], hs =>
      obtain ⟨mv, kb⟩ := FunD.kbinds0 (ps := f.ps) F (f.ps.length - 1) [s] [] (fun us mv ws => us ++ ws) hne (fun q h => nomatch h) (fun r1 _ r3 => r1.append r3) (fun D doc pm an cdv ct us mv ws l1 l2 l3 => by
        match ws, l3 with
        | [m], _ => exact b1 hc D doc pm an cdv ct us m l1)
      refine ⟨_, _, kb, fun vs zs l1 l2 => ⟨zs, ?_, rfl⟩⟩
      match zs, l2 with
      | [z], _ => rfl
    | [.inl (i + 1)], hs => cases (and3 hs).1
    | [.inr q], hs =>
      have := (and3 (and3 hs).1).1
      simp at this
    | [], hs => cases hs
    | .inr q :: _ :: _, hs => cases (and3 hs).2
    | .inl i :: _ :: _, hs => cases (and3 hs).2
end Lh
/-! E26: the start of the law -/
namespace Lh
open PySem PySem.Spec PyProof.Rows L2
theorem reps_vals {C : Cn} {O : Addr → Prop} {H : Hp} : ∀ ns : List Int, Reps C O H (ns.map .int) (ns.map V.int)
  | [] => rfl
  | n :: ns => ⟨_, _, rfl, rfl, reps_vals ns⟩
theorem law_start {C : Cn} {sp : SpT} {j : Nat} {H : Hp} {a : Addr} {ns : List Int} {E : XK} (h : SqL C.K H a (ns.map V.int)) (hs : sp j [.fz (.ro (ns.map .int))] fun p _ => p = .bl true) : spF C sp j [.va] [.ref a] H (fun v _ => v = .bl true) E := by
  refine ⟨fun _ => False, [.fz (.ro (ns.map .int))], [[]], fun p _ => p = .bl true, ?_, List.nodup_nil, fun a h => (nomatch h), fun a h => h.elim, hs, fun p os v H' O' fs' hp pc => ?_⟩
  · refine ⟨_, _, _, _, _, _, rfl, rfl, rfl, ?_, rfl, rfl, rfl⟩
    refine ⟨⟨a, _, rfl, ?_, reps_vals ns⟩, rfl⟩
    rcases h with h | h
    · exact .inl ⟨fun z => z, h⟩
    · exact .inr (.inr h)
  · subst hp
    exact pc.rep
end Lh
/-! F0: rules for the plain side: what the predicate transformers do, step by step -/
namespace Lh
section
variable (sp : SpT)
def ssF : List S → Ss
  | [] => .nil
  | s :: l => .cons s (ssF l)
def seqK (r : Ss) (Q : R → Prop) : R → Prop := fun x => match x with
  | .nx e => evSs sp r e Q
  | .bk e => Q (.bk e)
  | .ct e => Q (.ct e)
  | .rt p e => Q (.rt p e)
  | .ro p e => Q (.ro p e)
/-- behind the body of a loop -/
def loopK (J : Env → Prop) (K : R → Prop) : R → Prop := fun r => match r with
  | .nx e => J e
  | .ct e => J e
  | .bk e => K (.nx e)
  | .rt p e => K (.rt p e)
  | .ro p e => K (.ro p e)
def finK (ms : List Md) (Q : PV → List OV → Prop) : R → Prop := fun r => match r with
  | .rt p env => ∃ os, outs ms env = some os ∧ Q p os
  | .ro l env => ∃ os, outs ms env = some os ∧ Q (.lst l) os
  | .nx env => ∃ os, outs ms env = some os ∧ Q .non os
  | _ => False
def finKO (ms : List Md) (Q : PV → List OV → Prop) : R → Prop := fun r => match r with
  | .ro l env => ∃ os, outs ms env = some os ∧ Q (.lst l) os
  | _ => False
variable {Q : R → Prop} {K : R → Prop} {J : Env → Prop} {env : Env} {r : Ss}
@[simp ↓] theorem seqK_nx : seqK sp r Q (.nx env) = evSs sp r env Q := rfl
@[simp ↓] theorem seqK_bk : seqK sp r Q (.bk env) = Q (.bk env) := rfl
@[simp ↓] theorem seqK_ct : seqK sp r Q (.ct env) = Q (.ct env) := rfl
@[simp ↓] theorem seqK_ro {p} : seqK sp r Q (.ro p env) = Q (.ro p env) := rfl
@[simp ↓] theorem seqK_rt {p} : seqK sp r Q (.rt p env) = Q (.rt p env) := rfl
@[simp] theorem loopK_nx : loopK J K (.nx env) = J env := rfl
@[simp] theorem loopK_ct : loopK J K (.ct env) = J env := rfl
@[simp ↓] theorem loopK_bk : loopK J K (.bk env) = K (.nx env) := rfl
@[simp ↓] theorem loopK_ro {p} : loopK J K (.ro p env) = K (.ro p env) := rfl
@[simp ↓] theorem loopK_rt {p} : loopK J K (.rt p env) = K (.rt p env) := rfl
@[simp ↓] theorem finK_ro {ms Q p} : finK ms Q (.ro p env) = ∃ os, outs ms env = some os ∧ Q (.lst p) os := rfl
@[simp ↓] theorem finKO_ro {ms Q p} : finKO ms Q (.ro p env) = ∃ os, outs ms env = some os ∧ Q (.lst p) os := rfl
@[simp ↓] theorem finK_rt {ms Q p} : finK ms Q (.rt p env) = ∃ os, outs ms env = some os ∧ Q p os := rfl
@[simp ↓] theorem finK_nx {ms Q} : finK ms Q (.nx env) = ∃ os, outs ms env = some os ∧ Q .non os := rfl
@[simp] theorem outs_nil : outs [] env = some [] := by cases env <;> rfl
@[simp] theorem outs_io {ms t} : outs (.io :: ms) (.io t :: env) = (outs ms env).map (t :: ·) := rfl
@[simp] theorem outs_va {ms s} : outs (.va :: ms) (s :: env) = outs ms env := by cases s <;> rfl
@[simp] theorem outs_bo {ms s} : outs (.bo :: ms) (s :: env) = outs ms env := by cases s <;> rfl
@[simp] theorem initE_nil : initE [] [] = some [] := rfl
@[simp] theorem initE_va {ms p ts} : initE (.va :: ms) (.fz p :: ts) = (initE ms ts).map (.fz p :: ·) := rfl
@[simp] theorem initE_bo {ms t ts} : initE (.bo :: ms) (t :: ts) = (initE ms ts).map (.bo t :: ·) := rfl
@[simp] theorem initE_iol {ms l ts} : initE (.io :: ms) (.lst l :: ts) = (initE ms ts).map (.io (.lst l) :: ·) := rfl
@[simp] theorem initE_ioo {ms c fs ts} : initE (.io :: ms) (.obj c fs :: ts) = (initE ms ts).map (.io (.obj c fs) :: ·) := rfl
theorem evD_eq {ms n b ts Q} : evD sp ms n b ts Q = ∃ e0, initE ms ts = some e0 ∧ evSs sp b (e0 ++ List.replicate (n - e0.length) .u) (finK ms Q) := rfl
theorem evDO_of {ms n b ts Q e0 e1} (h : initE ms ts = some e0) (h1 : e0 ++ List.replicate (n - e0.length) .u = e1) (h2 : evSs sp b e1 (finKO ms Q)) : evDO sp ms n b ts Q := ⟨e0, h, by rw [h1]; exact h2⟩
theorem evD_of {ms n b ts Q e0 e1} (h : initE ms ts = some e0) (h1 : e0 ++ List.replicate (n - e0.length) .u = e1) (h2 : evSs sp b e1 (finK ms Q)) : evD sp ms n b ts Q := ⟨e0, h, by rw [h1]; exact h2⟩

/-! no looking inside -/
theorem evP_cg {e Q} : evP sp e env Q = evP sp e env Q := rfl
theorem evT_cg {e Q} : evT sp e env Q = evT sp e env Q := rfl
theorem evI_cg {b e Q} : evI sp b e env Q = evI sp b e env Q := rfl
theorem evS_cg {s} : evS sp s env K = evS sp s env K := rfl
theorem evSs_cg {env'} (h : env = env') : evSs sp r env Q = evSs sp r env' Q := by rw [h]
theorem rdF_cg {i Q env'} (h : env = env') : rdF env i Q = rdF env' i Q := by rw [h]
theorem rdB_cg {i Q env'} (h : env = env') : rdB env i Q = rdB env' i Q := by rw [h]
theorem rdO_cg {i f Q env'} (h : env = env') : rdO env i f Q = rdO env' i f Q := by rw [h]
theorem rdOB_cg {i f Q env'} (h : env = env') : rdOB env i f Q = rdOB env' i f Q := by rw [h]
theorem rdT_cg {i Q env'} (h : env = env') : rdT env i Q = rdT env' i Q := by rw [h]
theorem rdW_cg {i Q env'} (h : env = env') : rdW env i Q = rdW env' i Q := by rw [h]
theorem lvR_cg {l Q env'} (h : env = env') : lvR l env Q = lvR l env' Q := by rw [h]
theorem frzR_cg {i Q env'} (h : env = env') : frzR env i Q = frzR env' i Q := by rw [h]
theorem fdR_cg {i c f x Q env'} (h : env = env') : fdR env i c f x Q = fdR env' i c f x Q := by rw [h]

/-! reading -/
section
variable {Q : PV → Prop} {s : Slot} {i f c : Nat} {p : PV} {l : List PV} {fs : List (Nat × OF)}
@[simp] theorem rdF_s : rdF (s :: env) (i + 1) Q = rdF env i Q := rfl
@[simp] theorem rdF_0 : rdF (.fz p :: env) 0 Q = Q p := rfl
@[simp] theorem rdB_s : rdB (s :: env) (i + 1) Q = rdB env i Q := rfl
@[simp] theorem rdB_fz : rdB (.fz p :: env) 0 Q = Q p := rfl
@[simp] theorem rdB_ow : rdB (.ow (.lst l) :: env) 0 Q = Q (.lst l) := rfl
@[simp] theorem rdB_io : rdB (.io (.lst l) :: env) 0 Q = Q (.lst l) := rfl
@[simp] theorem rdB_bo : rdB (.bo (.fz p) :: env) 0 Q = Q p := rfl
@[simp] theorem rdO_s : rdO (s :: env) (i + 1) f Q = rdO env i f Q := rfl
def fdO (o : Option OF) (Q : PV → Prop) : Prop := match o with
  | some (.fz p) => Q p
  | _ => False
def fdOB (o : Option OF) (Q : PV → Prop) : Prop := match o with
  | some (.fz p) => Q p
  | some (.lst l) => Q (.lst l)
  | none => False
def fdP (o : Option PV) (Q : PV → Prop) : Prop := match o with
  | some p => Q p
  | none => False
@[simp] theorem fdO_some : fdO (some (.fz p)) Q = Q p := rfl
@[simp] theorem fdOB_some : fdOB (some (.fz p)) Q = Q p := rfl
@[simp] theorem fdOB_lst : fdOB (some (.lst l)) Q = Q (.lst l) := rfl
@[simp] theorem fdP_some : fdP (some p) Q = Q p := rfl
theorem fdO_cg {o o'} (h : o = o') : fdO o Q = fdO o' Q := by rw [h]
theorem fdOB_cg {o o'} (h : o = o') : fdOB o Q = fdOB o' Q := by rw [h]
theorem fdP_cg {o o'} (h : o = o') : fdP o Q = fdP o' Q := by rw [h]
@[simp] theorem rdO_ow : rdO (.ow (.obj c fs) :: env) 0 f Q = fdO (fs.lookup f) Q := rfl
@[simp] theorem rdO_io : rdO (.io (.obj c fs) :: env) 0 f Q = fdO (fs.lookup f) Q := rfl
@[simp] theorem rdO_bo : rdO (.bo (.obj c fs) :: env) 0 f Q = fdO (fs.lookup f) Q := rfl
@[simp] theorem rdOB_s : rdOB (s :: env) (i + 1) f Q = rdOB env i f Q := rfl
@[simp] theorem rdOB_ow : rdOB (.ow (.obj c fs) :: env) 0 f Q = fdOB (fs.lookup f) Q := rfl
@[simp] theorem rdOB_io : rdOB (.io (.obj c fs) :: env) 0 f Q = fdOB (fs.lookup f) Q := rfl
@[simp] theorem rdOB_bo : rdOB (.bo (.obj c fs) :: env) 0 f Q = fdOB (fs.lookup f) Q := rfl
end
section
variable {Q : OV → Prop} {s : Slot} {i f c : Nat} {p : PV} {t : OV} {l : List PV} {fs : List (Nat × OF)}
@[simp] theorem rdT_s : rdT (s :: env) (i + 1) Q = rdT env i Q := rfl
@[simp] theorem rdT_fz : rdT (.fz p :: env) 0 Q = Q (.fz p) := rfl
@[simp] theorem rdT_owl : rdT (.ow (.lst l) :: env) 0 Q = Q (.fz (.lst l)) := rfl
@[simp] theorem rdT_iol : rdT (.io (.lst l) :: env) 0 Q = Q (.fz (.lst l)) := rfl
@[simp] theorem rdT_owo : rdT (.ow (.obj c fs) :: env) 0 Q = Q (.obj c fs) := rfl
@[simp] theorem rdT_ioo : rdT (.io (.obj c fs) :: env) 0 Q = Q (.obj c fs) := rfl
@[simp] theorem rdT_bo : rdT (.bo t :: env) 0 Q = Q t := rfl
@[simp] theorem rdW_s : rdW (s :: env) (i + 1) Q = rdW env i Q := rfl
@[simp] theorem rdW_owl : rdW (.ow (.lst l) :: env) 0 Q = Q (.lst l) := rfl
@[simp] theorem rdW_iol : rdW (.io (.lst l) :: env) 0 Q = Q (.lst l) := rfl
@[simp] theorem rdW_owo : rdW (.ow (.obj c fs) :: env) 0 Q = Q (.obj c fs) := rfl
@[simp] theorem rdW_ioo : rdW (.io (.obj c fs) :: env) 0 Q = Q (.obj c fs) := rfl
@[simp] theorem putW_ow {t'} : putW (.ow t) t' = .ow t' := rfl
@[simp] theorem putW_io {t'} : putW (.io t) t' = .io t' := rfl
end
section
variable {Q : List PV → Prop} {s : Slot} {i f c : Nat} {l ls : List PV} {fs : List (Nat × OF)}
@[simp] theorem lvR_s : lvR (.nm (i + 1)) (s :: env) Q = lvR (.nm i) env Q := rfl
@[simp] theorem lvR_ow : lvR (.nm 0) (.ow (.lst l) :: env) Q = Q l := rfl
@[simp] theorem lvR_io : lvR (.nm 0) (.io (.lst l) :: env) Q = Q l := rfl
def fdL (o : Option OF) (Q : List PV → Prop) : Prop := match o with
  | some (.lst l) => Q l
  | _ => False
@[simp] theorem fdL_some : fdL (some (.lst l)) Q = Q l := rfl
theorem fdL_cg {o o'} (h : o = o') : fdL o Q = fdL o' Q := by rw [h]
@[simp] theorem lvR_fs : lvR (.fd (i + 1) f) (s :: env) Q = lvR (.fd i f) env Q := rfl
@[simp] theorem lvR_fow : lvR (.fd 0 f) (.ow (.obj c fs) :: env) Q = fdL (fs.lookup f) Q := rfl
@[simp] theorem lvR_fio : lvR (.fd 0 f) (.io (.obj c fs) :: env) Q = fdL (fs.lookup f) Q := rfl
@[simp] theorem lvSet_s : lvSet (.nm (i + 1)) (s :: env) ls = s :: lvSet (.nm i) env ls := by
  simp only [lvSet, List.getElem?_cons_succ]
  cases env[i]? <;> rfl
@[simp] theorem lvSet_ow : lvSet (.nm 0) (.ow (.lst l) :: env) ls = .ow (.lst ls) :: env := rfl
@[simp] theorem lvSet_io : lvSet (.nm 0) (.io (.lst l) :: env) ls = .io (.lst ls) :: env := rfl
@[simp] theorem lvSet_fs : lvSet (.fd (i + 1) f) (s :: env) ls = s :: lvSet (.fd i f) env ls := by
  simp only [lvSet, List.getElem?_cons_succ]
  rcases env[i]? with _ | ⟨⟩ | _ | ⟨⟨⟩⟩ | ⟨⟨⟩⟩ | _ <;> rfl
@[simp] theorem lvSet_fow : lvSet (.fd 0 f) (.ow (.obj c fs) :: env) ls = .ow (.obj c (putFd fs f (.lst ls))) :: env := rfl
@[simp] theorem lvSet_fio : lvSet (.fd 0 f) (.io (.obj c fs) :: env) ls = .io (.obj c (putFd fs f (.lst ls))) :: env := rfl
@[simp] theorem putFd_nil {x} : putFd [] f x = [(f, x)] := rfl
@[simp] theorem putFd_cons {k y r x} : putFd ((k, y) :: r) f x = if k = f then (k, x) :: r else (k, y) :: putFd r f x := rfl
end
section
variable {Q : Env → Prop} {s : Slot} {i f c d : Nat} {t : OV} {p : PV} {x : OF} {fs : List (Nat × OF)}
def frzX (o : Option Slot) (env : Env) (i : Nat) (Q : Env → Prop) : Prop := match o with
  | some (.ow t) => Q (env.set i (.fz (frzO t)))
  | some (.fz _) => Q env
  | _ => False
@[simp ↓] theorem frzR_e : frzR env i Q = frzX env[i]? env i Q := rfl
@[simp] theorem frzX_ow : frzX (some (.ow t)) env i Q = Q (env.set i (.fz (frzO t))) := rfl
@[simp] theorem frzX_fz : frzX (some (.fz p)) env i Q = Q env := rfl
@[simp] theorem frzO_lst {l} : frzO (.lst l) = .lst l := rfl
@[simp] theorem frzO_fz : frzO (.fz p) = p := rfl
@[simp] theorem frzO_obj : frzO (.obj c fs) = .obj c (fs.map fun q => (q.1, ofFz q.2)) := rfl
@[simp] theorem ofFz_fz : ofFz (.fz p) = p := rfl
@[simp] theorem ofFz_lst {l} : ofFz (.lst l) = .lst l := rfl
def fdX (o : Option Slot) (env : Env) (i c f : Nat) (x : OF) (Q : Env → Prop) : Prop := match o with
  | some (.ow (.obj d fs)) => (d = c ∧ fs.length < 100) ∧ Q (env.set i (.ow (.obj d (putFd fs f x))))
  | some (.io (.obj d fs)) => (d = c ∧ fs.length < 100) ∧ Q (env.set i (.io (.obj d (putFd fs f x))))
  | _ => False
@[simp ↓] theorem fdR_e : fdR env i c f x Q = fdX env[i]? env i c f x Q := rfl
@[simp] theorem fdX_ow : fdX (some (.ow (.obj d fs))) env i c f x Q = ((d = c ∧ fs.length < 100) ∧ Q (env.set i (.ow (.obj d (putFd fs f x))))) := rfl
@[simp] theorem fdX_io : fdX (some (.io (.obj d fs))) env i c f x Q = ((d = c ∧ fs.length < 100) ∧ Q (env.set i (.io (.obj d (putFd fs f x))))) := rfl
end
@[simp] theorem wipe_nil : wipeE env [] = env := rfl
@[simp] theorem wipe_cons {v vs} : wipeE env (v :: vs) = (wipeE env vs).set v .u := rfl
end
end Lh
/-! F1: rules for the plain side: expressions, tests, statements -/
namespace Lh
section
variable (sp : SpT) {env : Env}
section
variable {Q : PV → Prop} {a b c : E} {es0 : Es}
@[simp ↓] theorem ev_var {i} : evP sp (.var i) env Q = rdF env i Q := rfl
@[simp ↓] theorem ev_ofld {i f} : evP sp (.ofld i f) env Q = rdO env i f Q := rfl
@[simp ↓] theorem ev_cint {i} : evP sp (.cint i) env Q = Q (.int i) := rfl
@[simp ↓] theorem ev_cbl {i} : evP sp (.cbl i) env Q = Q (.bl i) := rfl
@[simp ↓] theorem ev_cnon : evP sp .cnon env Q = Q .non := rfl
@[simp ↓] theorem ev_cstr {i} : evP sp (.cstr i) env Q = Q (.str i) := rfl
@[simp ↓] theorem ev_gl {i p} : evP sp (.gl i p) env Q = Q p := rfl
@[simp ↓] theorem ev_bin {o} : evP sp (.bin o a b) env Q = borR a (evP sp a env) env fun x => borR b (evP sp b env) env fun y => opR o x y Q := rfl
def negR (Q : PV → Prop) (x : PV) : Prop := match x with
  | .int i => Q (.int (-i))
  | _ => False
@[simp] theorem negR_i {i} : negR Q (.int i) = Q (.int (-i)) := rfl
@[simp ↓] theorem ev_neg : evP sp (.neg a) env Q = evP sp a env (negR Q) := rfl
@[simp ↓] theorem ev_cmp {o} : evP sp (.cmp o a b) env Q = borR a (evP sp a env) env fun x => borR b (evP sp b env) env fun y => cmpR o x y Q := rfl
def chK (o' : COp) (c : E) (env : Env) (Q : PV → Prop) (y r : PV) : Prop := match r with
  | .bl true => evP sp c env fun z => cmpR o' y z Q
  | .bl false => Q (.bl false)
  | _ => False
@[simp ↓] theorem ev_chain {o o'} : evP sp (.chain o o' a b c) env Q = evP sp a env fun x => evP sp b env fun y => cmpR o x y (chK sp o' c env Q y) := rfl
def anK (b : E) (env : Env) (Q : PV → Prop) (r : PV) : Prop := match r with
  | .bl true => evP sp b env Q
  | .bl false => Q (.bl false)
  | _ => False
def orK (b : E) (env : Env) (Q : PV → Prop) (r : PV) : Prop := match r with
  | .bl true => Q (.bl true)
  | .bl false => evP sp b env Q
  | _ => False
def noK (Q : PV → Prop) (r : PV) : Prop := match r with
  | .bl b => Q (.bl (!b))
  | _ => False
@[simp ↓] theorem ev_and2 : evP sp (.and2 a b) env Q = evP sp a env (anK sp b env Q) := rfl
@[simp ↓] theorem ev_and1 : evP sp (.and1 a) env Q = evP sp a env Q := rfl
@[simp ↓] theorem ev_or2 : evP sp (.or2 a b) env Q = evP sp a env (orK sp b env Q) := rfl
@[simp ↓] theorem ev_or1 : evP sp (.or1 a) env Q = evP sp a env Q := rfl
@[simp ↓] theorem ev_nott : evP sp (.nott a) env Q = evP sp a env (noK Q) := rfl
@[simp ↓] theorem chK_t {o' y} : chK sp o' c env Q y (.bl true) = evP sp c env fun z => cmpR o' y z Q := rfl
@[simp ↓] theorem chK_f {o' y} : chK sp o' c env Q y (.bl false) = Q (.bl false) := rfl
@[simp ↓] theorem anK_t : anK sp b env Q (.bl true) = evP sp b env Q := rfl
@[simp ↓] theorem anK_f : anK sp b env Q (.bl false) = Q (.bl false) := rfl
@[simp ↓] theorem orK_t : orK sp b env Q (.bl true) = Q (.bl true) := rfl
@[simp ↓] theorem orK_f : orK sp b env Q (.bl false) = evP sp b env Q := rfl
@[simp ↓] theorem noK_b {x} : noK Q (.bl x) = Q (.bl (!x)) := rfl
theorem bool_if {P : Bool → Prop} {x : Bool} : P x = if x = true then P true else P false := by cases x <;> simp
/-- tests that are known as propositions -/
@[simp] theorem chK_d {o' y} {x : Bool} : chK sp o' c env Q y (.bl x) = if x = true then (evP sp c env fun z => cmpR o' y z Q) else Q (.bl false) := by cases x <;> simp
@[simp] theorem anK_d {x : Bool} : anK sp b env Q (.bl x) = if x = true then evP sp b env Q else Q (.bl false) := by cases x <;> simp
@[simp] theorem orK_d {x : Bool} : orK sp b env Q (.bl x) = if x = true then Q (.bl true) else evP sp b env Q := by cases x <;> simp
theorem chK_cg {o' y r r'} (h : r = r') : chK sp o' c env Q y r = chK sp o' c env Q y r' := by rw [h]
theorem anK_cg {r r'} (h : r = r') : anK sp b env Q r = anK sp b env Q r' := by rw [h]
theorem orK_cg {r r'} (h : r = r') : orK sp b env Q r = orK sp b env Q r' := by rw [h]
@[simp ↓] theorem ev_ife {t} : evP sp (.ife t a b) env Q = evT sp t env fun c => if c = true then evP sp a env Q else evP sp b env Q := rfl
@[simp ↓] theorem ev_tup : evP sp (.tup es0) env Q = evEs sp es0 env fun l => Q (.tup l) := rfl
@[simp ↓] theorem ev_lst : evP sp (.lst es0) env Q = evEs sp es0 env fun l => Q (.lst l) := rfl
@[simp ↓] theorem ev_ix : evP sp (.ix a b) env Q = borR a (evP sp a env) env fun x => evP sp b env fun y => ixR x y Q := rfl
@[simp ↓] theorem ev_sl {lo hi} : evP sp (.sl a lo hi) env Q = borR a (evP sp a env) env fun x => evO sp lo env fun l => evO sp hi env fun h => slR x l h Q := rfl
@[simp ↓] theorem ev_fld {f} : evP sp (.fld a f) env Q = evP sp a env fun x => fldR x f Q := rfl
def cK (Q : PV → Prop) : PV → List OV → Prop := fun p _ => Q p
@[simp] theorem cK_e {p os} : cK Q p os = Q p := rfl
@[simp ↓] theorem ev_call {j ms} : evP sp (.call j ms es0) env Q = evAs sp es0 ms env fun ts => sp j ts (cK Q) := rfl
@[simp ↓] theorem ev_callO {j ms} : evP sp (.callO j ms es0) env Q = evAs sp es0 ms env fun ts => sp j ts (cK Q) := rfl
@[simp ↓] theorem ev_callk {j ms ks sel} : evP sp (.callk j ms es0 ks sel) env Q = evAs sp es0 ms env fun ts => evEs sp ks env fun l => ∃ ds, pick l sel = some ds ∧ sp j (ts ++ ds.map .fz) (cK Q) := rfl
def mkK (c : Nat) (Q : PV → Prop) : PV → List OV → Prop := fun p os => p = .non ∧ ∃ fs, os = [.obj c fs] ∧ Q (frzO (.obj c fs))
theorem mkK_e {c fs} (h : Q (frzO (.obj c fs))) : mkK c Q .non [.obj c fs] := ⟨rfl, fs, rfl, h⟩
@[simp] theorem mkK_eq {c fs} : mkK c Q .non [.obj c fs] = Q (frzO (.obj c fs)) := by
  apply propext; constructor
  · rintro ⟨-, gs, h, h'⟩
    cases h; exact h'
  · exact mkK_e
@[simp ↓] theorem ev_make {c j ms} : evP sp (.make c j ms es0) env Q = evAs sp es0 ms env fun ts => sp j (.obj c [] :: ts) (mkK c Q) := rfl
@[simp ↓] theorem ev_makek {c j ms ks sel} : evP sp (.makek c j ms es0 ks sel) env Q = evAs sp es0 ms env fun ts => evEs sp ks env fun l => ∃ ds, pick l sel = some ds ∧ sp j (.obj c [] :: (ts ++ ds.map .fz)) (mkK c Q) := rfl
@[simp ↓] theorem ev_dun {c j a b} : evP sp (.dun c j a b) env Q = evP sp a env fun x => evP sp b env fun y => isObj c (.fz x) = true ∧ isObj c (.fz y) = true ∧ sp j [.fz x, .fz y] (cK Q) := rfl
@[simp ↓] theorem ev_meth {c m j ms o} : evP sp (.meth c m j ms o es0) env Q = argR .bo o (evP sp o env) env fun t => isObj c t = true ∧ evAs sp es0 ms env fun ts => sp j (t :: ts) (cK Q) := rfl
@[simp ↓] theorem ev_bi1 {f} : evP sp (.bi1 f a) env Q = borR a (evP sp a env) env fun x => bi1R f x Q := rfl
@[simp ↓] theorem ev_bi2 {f} : evP sp (.bi2 f a b) env Q = evP sp a env fun x => evP sp b env fun y => bi2R f x y Q := rfl
@[simp ↓] theorem ev_isi {t} : evP sp (.isi a t) env Q = borR a (evP sp a env) env fun x => tyOk x = true ∧ Q (.bl (isTy x t)) := rfl
@[simp ↓] theorem ev_m1 {m} : evP sp (.m1 m a b) env Q = borR a (evP sp a env) env fun x => m1K m x = true ∧ evP sp b env fun y => m1R m x y Q := rfl
def rgK (Q : PV → Prop) (x y : PV) : Prop := match x, y with
  | .int i, .int j => (R62 i ∧ R62 j) ∧ Q (.rng i j)
  | _, _ => False
def rg1K (Q : PV → Prop) (x : PV) : Prop := match x with
  | .int j => R62 j ∧ Q (.rng 0 j)
  | _ => False
def lrK (Q : PV → Prop) (x : PV) : Prop := match x with
  | .int j => (-16777216 ≤ j ∧ j ≤ 16777216) ∧ Q (.lst (rangeL 0 j.toNat))
  | _ => False
@[simp] theorem rgK_e {i j} : rgK Q (.int i) (.int j) = ((R62 i ∧ R62 j) ∧ Q (.rng i j)) := rfl
@[simp] theorem rg1K_e {j} : rg1K Q (.int j) = (R62 j ∧ Q (.rng 0 j)) := rfl
@[simp] theorem lrK_e {j} : lrK Q (.int j) = ((-16777216 ≤ j ∧ j ≤ 16777216) ∧ Q (.lst (rangeL 0 j.toNat))) := rfl
@[simp ↓] theorem ev_rng : evP sp (.rng a b) env Q = evP sp a env fun x => evP sp b env fun y => rgK Q x y := rfl
@[simp ↓] theorem ev_rng1 : evP sp (.rng1 a) env Q = evP sp a env (rg1K Q) := rfl
def lr2K (Q : PV → Prop) (x y : PV) : Prop := match x, y with
  | .int i, .int j => ((0 ≤ i ∧ i ≤ 16777216) ∧ -16777216 ≤ j ∧ j ≤ 16777216) ∧ Q (.lst (rangeL i (j - i).toNat))
  | _, _ => False
@[simp] theorem lr2K_e {i j} : lr2K Q (.int i) (.int j) = (((0 ≤ i ∧ i ≤ 16777216) ∧ -16777216 ≤ j ∧ j ≤ 16777216) ∧ Q (.lst (rangeL i (j - i).toNat))) := rfl
@[simp ↓] theorem ev_lrng2 : evP sp (.lrng2 a b) env Q = evP sp a env fun x => evP sp b env fun y => lr2K Q x y := rfl
@[simp ↓] theorem ev_lrng : evP sp (.lrng a) env Q = evP sp a env (lrK Q) := rfl
end
section
variable {Q : Option Int → Prop}
def evOK (Q : Option Int → Prop) (p : PV) : Prop := match p with
  | .int i => Q (some i)
  | _ => False
@[simp] theorem evOK_i {i} : evOK Q (.int i) = Q (some i) := rfl
@[simp ↓] theorem evO_n : evO sp .none env Q = Q none := rfl
@[simp ↓] theorem evO_s {e} : evO sp (.some e) env Q = evP sp e env (evOK Q) := rfl
end
@[simp ↓] theorem evEs_nil {Q} : evEs sp .nil env Q = Q [] := rfl
@[simp ↓] theorem evEs_cons {e es Q} : evEs sp (.cons e es) env Q = evP sp e env fun p => evEs sp es env fun ps => Q (p :: ps) := rfl
@[simp ↓] theorem evAs_nil {ms Q} : evAs sp .nil ms env Q = Q [] := by cases ms <;> rfl
@[simp ↓] theorem evAs_cons {e es m ms Q} : evAs sp (.cons e es) (m :: ms) env Q = argR m e (evP sp e env) env fun t => evAs sp es ms env fun ts => Q (t :: ts) := rfl
@[simp ↓] theorem argR_va {e k Q} : argR .va e k env Q = k fun p => Q (.fz p) := by cases e <;> rfl
@[simp ↓] theorem argR_bov {i k Q} : argR .bo (.var i) k env Q = rdT env i Q := rfl
@[simp ↓] theorem argR_iov {i k Q} : argR .io (.var i) k env Q = rdW env i Q := rfl
@[simp ↓] theorem argR_bof {i f k Q} : argR .bo (.ofld i f) k env Q = rdOB env i f fun p => Q (.fz p) := rfl
@[simp ↓] theorem argR_bo_bin {o a b k Q} : argR .bo (.bin o a b) k env Q = k fun p => Q (.fz p) := rfl
@[simp ↓] theorem argR_bo_fld {a f k Q} : argR .bo (.fld a f) k env Q = k fun p => Q (.fz p) := rfl
@[simp ↓] theorem argR_bo_ix {a b k Q} : argR .bo (.ix a b) k env Q = k fun p => Q (.fz p) := rfl
@[simp ↓] theorem argR_bo_bi1 {f a k Q} : argR .bo (.bi1 f a) k env Q = k fun p => Q (.fz p) := rfl
@[simp ↓] theorem argR_bo_call {j ms as k Q} : argR .bo (.call j ms as) k env Q = k fun p => Q (.fz p) := rfl
@[simp ↓] theorem argR_bo_lst {es k Q} : argR .bo (.lst es) k env Q = k fun p => Q (.fz p) := rfl
@[simp ↓] theorem argR_bo_tup {es k Q} : argR .bo (.tup es) k env Q = k fun p => Q (.fz p) := rfl
@[simp ↓] theorem argR_bo_sl {a b c k Q} : argR .bo (.sl a b c) k env Q = k fun p => Q (.fz p) := rfl
@[simp ↓] theorem argR_bo_comp {it tg c e vs k Q} : argR .bo (.comp it tg c e vs) k env Q = k fun p => Q (.fz p) := rfl
section
variable {Q : Bool → Prop} {a b t : T}
@[simp ↓] theorem evT_v {e} : evT sp (.v e) env Q = evP sp e env fun p => truR p Q := rfl
@[simp ↓] theorem evT_not : evT sp (.not t) env Q = evT sp t env fun b => Q (!b) := rfl
@[simp ↓] theorem evT_and2 : evT sp (.and2 a b) env Q = evT sp a env fun c => if c = true then evT sp b env Q else Q false := rfl
@[simp ↓] theorem evT_and1 : evT sp (.and1 a) env Q = evT sp a env Q := rfl
@[simp ↓] theorem evT_or2 : evT sp (.or2 a b) env Q = evT sp a env fun c => if c = true then Q true else evT sp b env Q := rfl
@[simp ↓] theorem evT_or1 : evT sp (.or1 a) env Q = evT sp a env Q := rfl
@[simp ↓] theorem evTO_n : evTO sp .none env Q = Q true := rfl
@[simp ↓] theorem evTO_s : evTO sp (.some t) env Q = evT sp t env Q := rfl
@[simp] theorem truR_bl {x} : truR (.bl x) Q = Q x := by simp [truR, truP]
@[simp] theorem truR_non : truR .non Q = Q false := by simp [truR, truP]
@[simp] theorem truR_int {i} : truR (.int i) Q = Q (i != 0) := by simp [truR, truP]
@[simp] theorem truR_lst {l} : truR (.lst l) Q = Q (!l.isEmpty) := by cases l <;> simp [truR, truP]
@[simp] theorem truR_tup {l} : truR (.tup l) Q = Q (!l.isEmpty) := by cases l <;> simp [truR, truP]
end
section
variable {Q : PV → Prop} {k : (PV → Prop) → Prop}
@[simp ↓] theorem borR_var {i} : borR (.var i) k env Q = rdB env i Q := rfl
@[simp ↓] theorem borR_ofld {i f} : borR (.ofld i f) k env Q = rdOB env i f Q := rfl
theorem borR_else {e} (h : (match e with | .var _ => false | .ofld _ _ => false | _ => true) = true) : borR e k env Q = k Q := by
  cases e <;> first | rfl | (simp at h)
@[simp ↓] theorem borR_cint {i} : borR (.cint i) k env Q = k Q := rfl
@[simp ↓] theorem borR_cbl {i} : borR (.cbl i) k env Q = k Q := rfl
@[simp ↓] theorem borR_cnon : borR .cnon k env Q = k Q := rfl
@[simp ↓] theorem borR_cstr {i} : borR (.cstr i) k env Q = k Q := rfl
@[simp ↓] theorem borR_gl {i p} : borR (.gl i p) k env Q = k Q := rfl
@[simp ↓] theorem borR_bin {o a b} : borR (.bin o a b) k env Q = k Q := rfl
@[simp ↓] theorem borR_neg {a} : borR (.neg a) k env Q = k Q := rfl
@[simp ↓] theorem borR_cmp {o a b} : borR (.cmp o a b) k env Q = k Q := rfl
@[simp ↓] theorem borR_chain {o p a b c} : borR (.chain o p a b c) k env Q = k Q := rfl
@[simp ↓] theorem borR_and2 {a b} : borR (.and2 a b) k env Q = k Q := rfl
@[simp ↓] theorem borR_and1 {a} : borR (.and1 a) k env Q = k Q := rfl
@[simp ↓] theorem borR_or2 {a b} : borR (.or2 a b) k env Q = k Q := rfl
@[simp ↓] theorem borR_or1 {a} : borR (.or1 a) k env Q = k Q := rfl
@[simp ↓] theorem borR_nott {a} : borR (.nott a) k env Q = k Q := rfl
@[simp ↓] theorem borR_ife {t a b} : borR (.ife t a b) k env Q = k Q := rfl
@[simp ↓] theorem borR_tup {es} : borR (.tup es) k env Q = k Q := rfl
@[simp ↓] theorem borR_lst {es} : borR (.lst es) k env Q = k Q := rfl
@[simp ↓] theorem borR_ix {a b} : borR (.ix a b) k env Q = k Q := rfl
@[simp ↓] theorem borR_sl {a b c} : borR (.sl a b c) k env Q = k Q := rfl
@[simp ↓] theorem borR_slrev {a} : borR (.slrev a) k env Q = k Q := rfl
@[simp ↓] theorem borR_fld {a f} : borR (.fld a f) k env Q = k Q := rfl
@[simp ↓] theorem borR_call {j ms as} : borR (.call j ms as) k env Q = k Q := rfl
@[simp ↓] theorem borR_callO {j ms as} : borR (.callO j ms as) k env Q = k Q := rfl
@[simp ↓] theorem borR_callk {j ms as ks sel} : borR (.callk j ms as ks sel) k env Q = k Q := rfl
@[simp ↓] theorem borR_make {c j ms as} : borR (.make c j ms as) k env Q = k Q := rfl
@[simp ↓] theorem borR_makek {c j ms as ks sel} : borR (.makek c j ms as ks sel) k env Q = k Q := rfl
@[simp ↓] theorem borR_dun {c j a b} : borR (.dun c j a b) k env Q = k Q := rfl
@[simp ↓] theorem borR_meth {c m j ms o as} : borR (.meth c m j ms o as) k env Q = k Q := rfl
@[simp ↓] theorem borR_bi1 {f a} : borR (.bi1 f a) k env Q = k Q := rfl
@[simp ↓] theorem borR_bi2 {f a b} : borR (.bi2 f a b) k env Q = k Q := rfl
@[simp ↓] theorem borR_isi {a t} : borR (.isi a t) k env Q = k Q := rfl
@[simp ↓] theorem borR_isiT {a t} : borR (.isiT a t) k env Q = k Q := rfl
@[simp ↓] theorem borR_m1 {m a b} : borR (.m1 m a b) k env Q = k Q := rfl
@[simp ↓] theorem borR_rng {a b} : borR (.rng a b) k env Q = k Q := rfl
@[simp ↓] theorem borR_rng1 {a} : borR (.rng1 a) k env Q = k Q := rfl
@[simp ↓] theorem borR_lrng2 {a b} : borR (.lrng2 a b) k env Q = k Q := rfl
@[simp ↓] theorem borR_lrng {a} : borR (.lrng a) k env Q = k Q := rfl
@[simp ↓] theorem borR_comp {it tg c e vs} : borR (.comp it tg c e vs) k env Q = k Q := rfl
@[simp ↓] theorem borR_comp2 {it tg c it1 tg1 c1 e vs vs1} : borR (.comp2 it tg c it1 tg1 c1 e vs vs1) k env Q = k Q := rfl
@[simp ↓] theorem bovR_t {e} : bovR true e k env Q = borR e k env Q := rfl
@[simp ↓] theorem bovR_f {e} : bovR false e k env Q = k Q := rfl
end
/-! operators -/
section
variable {Q : PV → Prop} {i j : Int} {s t : List Nat} {l m : List PV} {c n : Nat}
@[simp] theorem op_add : opR .add (.int i) (.int j) Q = Q (.int (i + j)) := rfl
@[simp] theorem op_sub : opR .sub (.int i) (.int j) Q = Q (.int (i - j)) := rfl
@[simp] theorem op_mul : opR .mul (.int i) (.int j) Q = (MulOk i j ∧ Q (.int (i * j))) := rfl
@[simp] theorem op_fdiv : opR .fdiv (.int i) (.int j) Q = ((0 < j ∧ j < 1073741824) ∧ Q (.int (i / j))) := rfl
@[simp] theorem op_mod : opR .mod (.int i) (.int j) Q = (0 < j ∧ Q (.int (i % j))) := rfl
@[simp] theorem op_pow : opR .pow (.int i) (.int j) Q = ((0 ≤ j ∧ j ≤ 1000000 ∧ i.natAbs < 2 ^ 64) ∧ Q (.int (i ^ j.toNat))) := rfl
@[simp] theorem op_adds : opR .add (.str s) (.str t) Q = (s.length + t.length ≤ 16777216 ∧ Q (.str (s ++ t))) := rfl
@[simp] theorem op_addl : opR .add (.lst l) (.lst m) Q = (l.length + m.length ≤ 16777216 ∧ Q (.lst (l ++ m))) := rfl
@[simp] theorem op_addt : opR .add (.tup l) (.tup m) Q = (l.length + m.length ≤ 16777216 ∧ Q (.tup (l ++ m))) := rfl
@[simp] theorem op_mull : opR .mul (.lst l) (.int i) Q = ((-(2 ^ 63) ≤ i ∧ i < 2 ^ 63 ∧ l.length * i.toNat ≤ 16777216) ∧ Q (.lst (List.replicate i.toNat l).flatten)) := rfl
@[simp] theorem augR_add : augR .add (.int i) (.int j) Q = Q (.int (i + j)) := rfl
@[simp] theorem augvR_add : augvR .add (.int i) (.int j) Q = Q (.int (i + j)) := rfl
@[simp] theorem augvR_sub : augvR .sub (.int i) (.int j) Q = Q (.int (i - j)) := rfl
@[simp] theorem augvR_adds : augvR .add (.str s) (.str t) Q = (s.length + t.length ≤ 16777216 ∧ Q (.str (s ++ t))) := rfl
@[simp] theorem augvR_addt {l m} : augvR .add (.tup l) (.tup m) Q = (l.length + m.length ≤ 16777216 ∧ Q (.tup (l ++ m))) := rfl
@[simp] theorem augR_sub : augR .sub (.int i) (.int j) Q = Q (.int (i - j)) := rfl
@[simp] theorem augR_adds : augR .add (.str s) (.str t) Q = (s.length + t.length ≤ 16777216 ∧ Q (.str (s ++ t))) := rfl
@[simp] theorem cmp_eqi : cmpR .eq (.int i) (.int j) Q = Q (.bl (decide (i = j))) := by simp [cmpR, okEq, scalP, eqPV]
@[simp] theorem cmp_nei : cmpR .ne (.int i) (.int j) Q = Q (.bl (!decide (i = j))) := by simp [cmpR, okEq, scalP, eqPV]
@[simp] theorem cmp_eqs : cmpR .eq (.str s) (.str t) Q = Q (.bl (decide (s = t))) := by simp [cmpR, okEq, scalP, eqPV]
@[simp] theorem cmp_nes : cmpR .ne (.str s) (.str t) Q = Q (.bl (!decide (s = t))) := by simp [cmpR, okEq, scalP, eqPV]
@[simp] theorem cmp_eqb {a b : Bool} : cmpR .eq (.bl a) (.bl b) Q = Q (.bl (a == b)) := by simp [cmpR, okEq, scalP, eqPV]
@[simp] theorem cmp_neb {a b : Bool} : cmpR .ne (.bl a) (.bl b) Q = Q (.bl (!(a == b))) := by simp [cmpR, okEq, scalP, eqPV]
theorem cmp_eq {x y} : cmpR .eq x y Q = (okEq x y = true ∧ Q (.bl (eqPV x y))) := rfl
theorem cmp_ne {x y} : cmpR .ne x y Q = (okEq x y = true ∧ Q (.bl (!eqPV x y))) := rfl
@[simp] theorem cmp_lt : cmpR .lt (.int i) (.int j) Q = Q (.bl (decide (i < j))) := rfl
@[simp] theorem cmp_le : cmpR .le (.int i) (.int j) Q = Q (.bl (decide (i ≤ j))) := rfl
@[simp] theorem cmp_gt : cmpR .gt (.int i) (.int j) Q = Q (.bl (decide (j < i))) := rfl
@[simp] theorem cmp_ge : cmpR .ge (.int i) (.int j) Q = Q (.bl (decide (j ≤ i))) := rfl
@[simp] theorem cmp_ins : cmpR .inn (.str [c]) (.str s) Q = Q (.bl (decide (c ∈ s))) := rfl
@[simp] theorem cmp_nis : cmpR .notin (.str [c]) (.str s) Q = Q (.bl (!decide (c ∈ s))) := rfl
theorem cmp_inl {x y} (h : seqOf y = some l) (hf : flatP x = true ∧ l.all flatP = true) : cmpR .inn x y Q = Q (.bl (l.any fun z => eqPV z x)) := by
  have hs : sgnP x y = none := by
    cases y <;> simp [seqOf] at h <;> (unfold sgnP; split <;> simp_all)
  simp only [cmpR, hs]
  exact propext ⟨fun ⟨m, hm, _, hq⟩ => by rw [h] at hm; cases hm; exact hq, fun hq => ⟨l, h, .inl hf, hq⟩⟩
theorem cmp_inD {x} (hf : inD x (.lst l) = true) : cmpR .inn x (.lst l) Q = Q (.bl (l.any fun z => eqPV z x)) := by
  have hs : sgnP x (.lst l) = none := by
    unfold sgnP; split <;> simp_all
  simp only [cmpR, hs]
  exact propext ⟨fun ⟨m, hm, _, hq⟩ => by cases hm; exact hq, fun hq => ⟨l, rfl, .inr hf, hq⟩⟩
theorem cmp_niD {x} (hf : inD x (.lst l) = true) : cmpR .notin x (.lst l) Q = Q (.bl (!l.any fun z => eqPV z x)) := by
  have hs : sgnP x (.lst l) = none := by
    unfold sgnP; split <;> simp_all
  simp only [cmpR, hs]
  exact propext ⟨fun ⟨m, hm, _, hq⟩ => by cases hm; exact hq, fun hq => ⟨l, rfl, .inr hf, hq⟩⟩
theorem cmp_nil {x y} (h : seqOf y = some l) (hf : flatP x = true ∧ l.all flatP = true) : cmpR .notin x y Q = Q (.bl (!l.any fun z => eqPV z x)) := by
  have hs : sgnP x y = none := by
    cases y <;> simp [seqOf] at h <;> (unfold sgnP; split <;> simp_all)
  simp only [cmpR, hs]
  exact propext ⟨fun ⟨m, hm, _, hq⟩ => by rw [h] at hm; cases hm; exact hq, fun hq => ⟨l, h, .inl hf, hq⟩⟩
@[simp] theorem cmp_is {x} : cmpR .iss x .non Q = Q (.bl (isNon x)) := by simp [cmpR, isNon]
@[simp] theorem cmp_isn {x} : cmpR .isnot x .non Q = Q (.bl (!isNon x)) := by simp [cmpR, isNon]
@[simp] theorem isNon_non : isNon .non = true := rfl
@[simp] theorem isNon_tup : isNon (.tup l) = false := rfl
@[simp] theorem isNon_lst : isNon (.lst l) = false := rfl
@[simp] theorem isNon_int : isNon (.int i) = false := rfl
@[simp] theorem isNon_str : isNon (.str s) = false := rfl
@[simp] theorem isNon_obj {fs} : isNon (.obj c fs) = false := rfl
@[simp] theorem ix_l : ixR (.lst l) (.int i) Q = ∃ k p, pyIx l.length i = some k ∧ l[k]? = some p ∧ Q p := rfl
@[simp] theorem ix_t : ixR (.tup l) (.int i) Q = ∃ k p, pyIx l.length i = some k ∧ l[k]? = some p ∧ Q p := rfl
@[simp] theorem ix_r : ixR (.ro l) (.int i) Q = ∃ k p, pyIx l.length i = some k ∧ l[k]? = some p ∧ Q p := rfl
@[simp] theorem ix_s : ixR (.str s) (.int i) Q = ∃ k c, pyIx s.length i = some k ∧ s.length ≤ 16777216 ∧ s[k]? = some c ∧ Q (.str [c]) := rfl
@[simp] theorem sl_l {a b} : slR (.lst l) a b Q = Q (.lst (cutP l a b)) := rfl
@[simp] theorem sl_t {a b} : slR (.tup l) a b Q = Q (.tup (cutP l a b)) := rfl
@[simp] theorem sl_s {a b} : slR (.str s) a b Q = (s.length ≤ 16777216 ∧ Q (.str (cutP s a b))) := rfl
@[simp] theorem fld_o {fs f} : fldR (.obj c fs) f Q = fdP (fs.lookup f) Q := rfl
theorem pyIx_nat {n m : Nat} : pyIx n (m : Int) = if m < n then some m else none := by
  simp [pyIx, Int.ofNat_nonneg]
theorem pyIx_lit {n m : Nat} : pyIx n (OfNat.ofNat m : Int) = if m < n then some m else none := pyIx_nat
@[simp] theorem pyIx_nat_some {n m k : Nat} : (pyIx n (m : Int) = some k) = (m < n ∧ k = m) := by
  rw [pyIx_nat]; split <;> simp [*, eq_comm]
@[simp] theorem pyIx_lit_some {n m k : Nat} : (pyIx n (OfNat.ofNat m : Int) = some k) = (m < n ∧ k = m) := pyIx_nat_some
@[simp] theorem pyIx_0_some {n k : Nat} : (pyIx n 0 = some k) = (0 < n ∧ k = 0) := pyIx_nat_some (m := 0)
@[simp] theorem pyIx_1_some {n k : Nat} : (pyIx n 1 = some k) = (1 < n ∧ k = 1) := pyIx_nat_some (m := 1)
@[simp] theorem bi_lens : bi1R .len (.str s) Q = (s.length ≤ 16777216 ∧ Q (.int s.length)) := rfl
@[simp] theorem bi_lenl : bi1R .len (.lst l) Q = Q (.int l.length) := rfl
@[simp] theorem bi_lent : bi1R .len (.tup l) Q = Q (.int l.length) := rfl
@[simp] theorem bi_lenr : bi1R .len (.ro l) Q = Q (.int l.length) := rfl
@[simp] theorem bi_listl : bi1R .list (.lst l) Q = Q (.lst l) := rfl
@[simp] theorem bi_listr : bi1R .list (.ro l) Q = Q (.lst l) := rfl
@[simp] theorem bi_listt : bi1R .list (.tup l) Q = Q (.lst l) := rfl
@[simp] theorem bi_tupl : bi1R .tuple (.lst l) Q = Q (.tup l) := rfl
@[simp] theorem bi_tupr : bi1R .tuple (.ro l) Q = Q (.tup l) := rfl
@[simp] theorem bi_tupt : bi1R .tuple (.tup l) Q = Q (.tup l) := rfl
@[simp] theorem bi_inti : bi1R .int (.int i) Q = Q (.int i) := rfl
@[simp] theorem bi_intb {b : Bool} : bi1R .int (.bl b) Q = Q (.int (if b then 1 else 0)) := rfl
@[simp] theorem bi_all : bi1R .all (.lst l) Q = ∃ bs, blsOf l = some bs ∧ Q (.bl (bs.all id)) := rfl
@[simp] theorem bi_any : bi1R .any (.lst l) Q = ∃ bs, blsOf l = some bs ∧ Q (.bl (bs.any id)) := rfl
@[simp] theorem bi_sum : bi1R .sum (.lst l) Q = ∃ ns, intsOf l = some ns ∧ Q (.int ns.sum) := rfl
@[simp] theorem bi_abs : bi1R .abs (.int i) Q = Q (.int (if i < 0 then -i else i)) := rfl
@[simp] theorem bi_sets : bi1R .lenset (.str s) Q = ((s.length < 1000 ∧ s.Nodup) ∧ Q (.int (s.length : Nat))) := rfl
@[simp] theorem bi_setl : bi1R .lenset (.lst l) Q = ∃ ns, intsOf l = some ns ∧ ns.length < 1000 ∧ ∀ k : Nat, (∃ ms : List Int, ms.Nodup ∧ (∀ z, z ∈ ms ↔ z ∈ ns) ∧ ms.length = k) → Q (.int (k : Nat)) := rfl
@[simp] theorem bi_min2 : bi2R .min (.int i) (.int j) Q = Q (.int (if j < i then j else i)) := rfl
@[simp] theorem bi_max2 : bi2R .max (.int i) (.int j) Q = Q (.int (if j > i then j else i)) := rfl
@[simp] theorem m1_sc : m1R .scount (.str s) (.str [c]) Q = Q (.int (s.count c : Nat)) := rfl
@[simp] theorem m1_lc : m1R .lcount (.lst l) (.int i) Q = ∃ ns, intsOf l = some ns ∧ Q (.int (ns.count i : Nat)) := rfl
@[simp] theorem m1_join : m1R .join (.str []) (.lst l) Q = ∃ ss, strsOf l = some ss ∧ (ss.map List.length).sum ≤ 16777216 ∧ Q (.str ss.flatten) := rfl
@[simp] theorem m1_si : m1R .sindex (.str s) (.str [c]) Q = ∃ i : Nat, s[i]? = some c ∧ (∀ k, k < i → s[k]? ≠ some c) ∧ Q (.int (i : Nat)) := rfl
@[simp] theorem m1K_si : m1K .sindex (.str s) = true := rfl
@[simp] theorem m1K_j : m1K .join (.str s) = true := rfl
@[simp] theorem op_muls : opR .mul (.str s) (.int i) Q = ((0 ≤ i ∧ i ≤ 1) ∧ Q (.str (if i = 0 then [] else s))) := rfl
@[simp] theorem m1K_s : m1K .scount (.str s) = true := rfl
@[simp] theorem m1K_c : m1K .lcount (.lst l) = true := rfl
@[simp] theorem m1K_i : m1K .lindex (.lst l) = true := rfl
@[simp] theorem isTy_int : isTy (.int i) .int = true := rfl
@[simp] theorem isTy_ib : isTy (.int i) .bool = false := rfl
@[simp] theorem isTy_is : isTy (.str s) .str = true := rfl
@[simp] theorem isTy_l : isTy (.lst l) .list = true := rfl
@[simp] theorem isTy_t : isTy (.tup l) .tuple = true := rfl
@[simp] theorem isTy_b {b} : isTy (.bl b) .bool = true := rfl
@[simp] theorem isTy_o {fs d} : isTy (.obj c fs) (.cls d) = (c == d) := rfl
@[simp] theorem tyOk_i : tyOk (.int i) = true := rfl
@[simp] theorem tyOk_s : tyOk (.str s) = true := rfl
@[simp] theorem tyOk_b {b} : tyOk (.bl b) = true := rfl
@[simp] theorem tyOk_l : tyOk (.lst l) = true := rfl
@[simp] theorem tyOk_t : tyOk (.tup l) = true := rfl
@[simp] theorem tyOk_o {fs} : tyOk (.obj c fs) = true := rfl
@[simp] theorem tyOk_n : tyOk .non = true := rfl
end
section
variable {Q : List PV → Prop} {l : List PV} {a b : E}
@[simp] theorem itR_l : itR (.lst l) Q = Q l := rfl
@[simp] theorem itR_r : itR (.ro l) Q = Q l := rfl
@[simp] theorem itR_t : itR (.tup l) Q = Q l := rfl
@[simp] theorem itR_g {i j} : itR (.rng i j) Q = Q (rangeL i (j - i).toNat) := rfl
@[simp] theorem itR_s {s : List Nat} : itR (.str s) Q = Q (s.map fun c => .str [c]) := rfl
def rgI (Q : List PV → Prop) (x y : PV) : Prop := match x, y with
  | .int i, .int j => (R62 i ∧ R62 j) ∧ Q (rangeL i (j - i).toNat)
  | _, _ => False
def rg1I (Q : List PV → Prop) (x : PV) : Prop := match x with
  | .int j => R62 j ∧ Q (rangeL 0 j.toNat)
  | _ => False
@[simp] theorem rgI_e {i j} : rgI Q (.int i) (.int j) = ((R62 i ∧ R62 j) ∧ Q (rangeL i (j - i).toNat)) := rfl
@[simp] theorem rg1I_e {j} : rg1I Q (.int j) = (R62 j ∧ Q (rangeL 0 j.toNat)) := rfl
@[simp ↓] theorem evI_val {c e} : evI sp c (.val e) env Q = bovR c e (evP sp e env) env fun p => itR p Q := rfl
@[simp ↓] theorem evI_rng1 {c} : evI sp c (.rng1 a) env Q = evP sp a env (rg1I Q) := rfl
@[simp ↓] theorem evI_rng2 {c} : evI sp c (.rng2 a b) env Q = evP sp a env fun x => evP sp b env fun y => rgI Q x y := rfl
@[simp ↓] theorem evI_zip {c} : evI sp c (.zip a b) env Q = bovR c a (evP sp a env) env fun x => bovR c b (evP sp b env) env fun y => ∃ l m, seqOf x = some l ∧ seqOf y = some m ∧ Q (List.zipWith (fun p q => .tup [p, q]) l m) := rfl
@[simp ↓] theorem evI_enum {c} : evI sp c (.enum a) env Q = bovR c a (evP sp a env) env fun x => ∃ l, seqOf x = some l ∧ Q (enumL 0 l) := rfl
@[simp ↓] theorem evI_rev {c} : evI sp c (.rev a) env Q = bovR c a (evP sp a env) env fun x => ∃ l, seqOf x = some l ∧ Q l.reverse := rfl
@[simp] theorem seqOf_l : seqOf (.lst l) = some l := rfl
@[simp] theorem seqOf_t : seqOf (.tup l) = some l := rfl
@[simp] theorem seqOf_r : seqOf (.ro l) = some l := rfl
end
section
variable {Q : Env → Prop} {p : PV} {l : List PV}
@[simp ↓] theorem bindT_nm {i} : bindT (.nm i) p env Q = Q (env.set i (.fz p)) := rfl
@[simp] theorem bindT_tp {ts} : bindT (.tp ts) (.tup l) env Q = (l.length = ts.length ∧ bindTs ts l env Q) := rfl
@[simp ↓] theorem bindTs_nil : bindTs [] l env Q = Q env := by cases l <;> rfl
@[simp ↓] theorem bindTs_cons {t ts ps} : bindTs (t :: ts) (p :: ps) env Q = bindT t p env fun env' => bindTs ts ps env' Q := rfl
end
/-! statements -/
section
variable {K : R → Prop} {e a b : E}
@[simp] theorem evSs_nil : evSs sp .nil env K = K (.nx env) := rfl
@[simp] theorem evSs_cons {s r} : evSs sp (.cons s r) env K = evS sp s env (seqK sp r K) := rfl
@[simp ↓] theorem evS_pass : evS sp .pass env K = K (.nx env) := rfl
@[simp ↓] theorem evS_ex : evS sp (.ex e) env K = evP sp e env fun _ => K (.nx env) := rfl
@[simp ↓] theorem evS_asg {i} : evS sp (.asg i e) env K = evP sp e env fun p => K (.nx (env.set i (mkS e p))) := rfl
@[simp ↓] theorem evS_tgt {t} : evS sp (.tgt t e) env K = evP sp e env fun p => bindT t p env fun env' => K (.nx env') := rfl
@[simp ↓] theorem evS_par {i j} : evS sp (.par i j a b) env K = evP sp a env fun x => evP sp b env fun y => K (.nx ((env.set i (mkS a x)).set j (mkS b y))) := rfl
def sxK (l : LV) (env : Env) (K : R → Prop) (v : PV) (ls : List PV) (y : PV) : Prop := match y with
  | .int n => ∃ j, pyIx ls.length n = some j ∧ K (.nx (lvSet l env (ls.set j v)))
  | _ => False
@[simp] theorem sxK_e {l v ls n} : sxK l env K v ls (.int n) = ∃ j, pyIx ls.length n = some j ∧ K (.nx (lvSet l env (ls.set j v))) := rfl
@[simp ↓] theorem evS_setix {l k} : evS sp (.setix l k e) env K = evP sp e env fun v => lvR l env fun ls => evP sp k env (sxK l env K v ls) := rfl
def sx2K (l l' : LV) (k' : E) (env : Env) (K : R → Prop) (v : PV) (ls : List PV) (y : PV) : Prop := match y with
  | .int n => ∃ j, pyIx ls.length n = some j ∧ lvR l' (lvSet l env (ls.set j v)) fun ls' => evP sp k' (lvSet l env (ls.set j v)) (sxK l' (lvSet l env (ls.set j v)) K v ls')
  | _ => False
@[simp] theorem sx2K_e {l l' k' v ls n} : sx2K sp l l' k' env K v ls (.int n) = ∃ j, pyIx ls.length n = some j ∧ lvR l' (lvSet l env (ls.set j v)) fun ls' => evP sp k' (lvSet l env (ls.set j v)) (sxK l' (lvSet l env (ls.set j v)) K v ls') := rfl
@[simp ↓] theorem evS_setix2 {l k l' k'} : evS sp (.setix2 l k l' k' e) env K = evP sp e env fun v => lvR l env fun ls => evP sp k env (sx2K sp l l' k' env K v ls) := by
  simp only [evS]
  rfl
@[simp ↓] theorem evS_augv {i o} : evS sp (.augv i o e) env K = rdF env i fun x => evP sp e env fun y => augvR o x y fun z => K (.nx (env.set i (.fz z))) := rfl
def axK (l : LV) (o : BOp) (e : E) (env : Env) (K : R → Prop) (ls : List PV) (y : PV) : Prop := match y with
  | .int n => ∃ j p, pyIx ls.length n = some j ∧ ls[j]? = some p ∧ evP sp e env fun v => augR o p v fun z => K (.nx (lvSet l env (ls.set j z)))
  | _ => False
@[simp] theorem axK_e {l o ls n} : axK sp l o e env K ls (.int n) = ∃ j p, pyIx ls.length n = some j ∧ ls[j]? = some p ∧ evP sp e env fun v => augR o p v fun z => K (.nx (lvSet l env (ls.set j z))) := rfl
@[simp ↓] theorem evS_augix {l k o} : evS sp (.augix l k o e) env K = lvR l env fun ls => evP sp k env (axK sp l o e env K ls) := rfl
@[simp ↓] theorem evS_setfd {i c f} : evS sp (.setfd i c f e) env K = evP sp e env fun p => fdR env i c f (mkF e p) fun env' => K (.nx env') := rfl
@[simp ↓] theorem evS_mu {m l as} : evS sp (.mu m l as) env K = lvR l env fun ls => evEs sp as env fun ps => muR m ls ps fun ls' _ => K (.nx (lvSet l env ls')) := rfl
def callK (as : Es) (ms : List Md) (env : Env) (d : Option Nat) (K : R → Prop) : PV → List OV → Prop := fun p os => ∃ env', wrB as ms os env = some env' ∧ K (.nx (dstE d p env'))
@[simp] theorem callK_e {as ms d p os} : callK as ms env d K p os = ∃ env', wrB as ms os env = some env' ∧ K (.nx (dstE d p env')) := rfl
@[simp ↓] theorem evS_call {d j ms as} : evS sp (.call d j ms as) env K = (ioB as ms env = true ∧ evAs sp as ms env fun ts => sp j ts (callK as ms env d K)) := rfl
@[simp ↓] theorem evS_iff {t A B} : evS sp (.iff t A B) env K = evT sp t env fun c => if c = true then evSs sp A env K else evSs sp B env K := rfl
@[simp ↓] theorem evS_ret : evS sp (.ret e) env K = evP sp e env fun p => K (.rt p env) := rfl
def retX (o : Option Slot) (env : Env) (i : Nat) (K : R → Prop) : Prop := match o with
  | some (.ow (.lst l)) => K (.ro l (env.set i (.fz (.lst l))))
  | _ => False
@[simp ↓] theorem evS_retF : evS sp (.retF e) env K = evP sp e env fun p => retFR (isFresh e) p env K := rfl
@[simp] theorem retFR_e {l} : retFR true (.lst l) env K = K (.ro l env) := rfl
@[simp ↓] theorem evS_retO {i} : evS sp (.retO i) env K = retX env[i]? env i K := rfl
@[simp] theorem retX_ow {l i} : retX (some (.ow (.lst l))) env i K = K (.ro l (env.set i (.fz (.lst l)))) := rfl
@[simp ↓] theorem evS_retN : evS sp .retN env K = K (.rt .non env) := rfl
@[simp ↓] theorem evS_brk : evS sp .brk env K = K (.bk env) := rfl
@[simp ↓] theorem evS_cont : evS sp .cont env K = K (.ct env) := rfl
@[simp ↓] theorem evS_raise : evS sp .raise env K = False := rfl
@[simp ↓] theorem evS_frz {i} : evS sp (.frz i) env K = frzR env i fun env' => K (.nx env') := rfl
@[simp] theorem dstE_n {p} : dstE none p env = env := rfl
@[simp] theorem dstE_s {p i} : dstE (some i) p env = env.set i (.fz p) := rfl
end
section
variable {Q : List PV → PV → Prop} {l : List PV} {y : PV} {i : Int}
@[simp] theorem mu_app : muR .append l [y] Q = (l.length < 16777216 ∧ Q (l ++ [y]) .non) := rfl
@[simp] theorem mu_ins : muR .insert l [.int i, y] Q = ((l.length < 16777216 ∧ 0 ≤ i ∧ i < 2 ^ 63) ∧ Q (l.take i.toNat ++ [y] ++ l.drop i.toNat) .non) := rfl
@[simp] theorem mu_pop : muR .pop l [] Q = ∃ y, l[l.length - 1]? = some y ∧ Q l.dropLast y := rfl
@[simp] theorem mu_popat : muR .popat l [.int i] Q = ∃ k y, (-(2 ^ 63) ≤ i ∧ i < 2 ^ 63) ∧ pyIx l.length i = some k ∧ l[k]? = some y ∧ Q (l.eraseIdx k) y := rfl
@[simp] theorem mu_clear : muR .clear l [] Q = Q [] .non := rfl
end
section
variable {as : Es} {ms : List Md} {os : List OV} {e : E} {i : Nat} {t : OV}
@[simp] theorem ioB_nil : ioB .nil ms env = true := by cases ms <;> rfl
@[simp] theorem ioB_va : ioB (.cons e as) (.va :: ms) env = ioB as ms env := by cases e <;> rfl
@[simp] theorem ioB_bo : ioB (.cons e as) (.bo :: ms) env = ioB as ms env := by cases e <;> rfl
def ioO (o : Option Slot) : Bool := match o with
  | some s => ioS s
  | none => false
@[simp] theorem ioO_e {s} : ioO (some s) = ioS s := rfl
@[simp] theorem ioB_io : ioB (.cons (.var i) as) (.io :: ms) env = (ioO env[i]? && ioB as ms env) := rfl
@[simp] theorem ioS_1 {l} : ioS (.ow (.lst l)) = true := rfl
@[simp] theorem ioS_2 {c fs} : ioS (.ow (.obj c fs)) = true := rfl
@[simp] theorem ioS_3 {l} : ioS (.io (.lst l)) = true := rfl
@[simp] theorem ioS_4 {c fs} : ioS (.io (.obj c fs)) = true := rfl
@[simp] theorem wrB_nil : wrB .nil ms [] env = some env := by cases ms <;> rfl
@[simp] theorem wrB_va : wrB (.cons e as) (.va :: ms) os env = wrB as ms os env := by cases e <;> rfl
@[simp] theorem wrB_bo : wrB (.cons e as) (.bo :: ms) os env = wrB as ms os env := by cases e <;> rfl
def wrO (o : Option Slot) (as : Es) (ms : List Md) (os : List OV) (t : OV) (i : Nat) (env : Env) : Option Env := match o with
  | some s => wrB as ms os (env.set i (putW s t))
  | none => none
@[simp] theorem wrO_e {s} : wrO (some s) as ms os t i env = wrB as ms os (env.set i (putW s t)) := rfl
@[simp] theorem wrB_io : wrB (.cons (.var i) as) (.io :: ms) (t :: os) env = wrO env[i]? as ms os t i env := rfl
end
/-! fresh lists -/
section
variable {p : PV} {l : List PV} {a b : E} {es0 : Es}
@[simp] theorem mkS_i {e i} : mkS e (.int i) = .fz (.int i) := by unfold mkS; split <;> simp_all
@[simp] theorem mkS_b {e i} : mkS e (.bl i) = .fz (.bl i) := by unfold mkS; split <;> simp_all
@[simp] theorem mkS_n {e} : mkS e .non = .fz .non := by unfold mkS; split <;> simp_all
@[simp] theorem mkS_s {e i} : mkS e (.str i) = .fz (.str i) := by unfold mkS; split <;> simp_all
@[simp] theorem mkS_t {e} : mkS e (.tup l) = .fz (.tup l) := by unfold mkS; split <;> simp_all
@[simp] theorem mkS_r {e} : mkS e (.ro l) = .fz (.ro l) := by unfold mkS; split <;> simp_all
@[simp] theorem mkS_g {e i j} : mkS e (.rng i j) = .fz (.rng i j) := by unfold mkS; split <;> simp_all
@[simp] theorem mkS_o {e c fs} : mkS e (.obj c fs) = .fz (.obj c fs) := by unfold mkS; split <;> simp_all
theorem mkS_lst {e} : mkS e (.lst l) = if isFresh e = true then .ow (.lst l) else .fz (.lst l) := by unfold mkS; cases isFresh e <;> rfl
@[simp] theorem mkS_l {e} : mkS e (.lst l) = if isFresh e = true then .ow (.lst l) else .fz (.lst l) := mkS_lst
@[simp] theorem fr_lst : isFresh (.lst es0) = true := rfl
@[simp] theorem fr_comp {it tg c e vs} : isFresh (.comp it tg c e vs) = true := rfl
@[simp] theorem fr_comp2 {it tg c it1 tg1 c1 e vs vs1} : isFresh (.comp2 it tg c it1 tg1 c1 e vs vs1) = true := rfl
@[simp] theorem fr_add : isFresh (.bin .add a b) = true := rfl
@[simp] theorem fr_mul : isFresh (.bin .mul a b) = true := rfl
@[simp] theorem fr_sl {lo hi} : isFresh (.sl a lo hi) = true := rfl
@[simp] theorem fr_list : isFresh (.bi1 .list a) = true := rfl
@[simp] theorem fr_sorted : isFresh (.bi1 .sorted a) = true := rfl
@[simp] theorem fr_lrng2 : isFresh (.lrng2 a b) = true := rfl
@[simp] theorem fr_lrng : isFresh (.lrng a) = true := rfl
@[simp] theorem fr_var {i} : isFresh (.var i) = false := rfl
@[simp] theorem fr_ix : isFresh (.ix a b) = false := rfl
@[simp] theorem fr_fld {f} : isFresh (.fld a f) = false := rfl
@[simp] theorem fr_call {j ms} : isFresh (.call j ms es0) = false := rfl
@[simp] theorem fr_callO {j ms} : isFresh (.callO j ms es0) = true := rfl
@[simp] theorem fr_callk {j ms ks sel} : isFresh (.callk j ms es0 ks sel) = false := rfl
@[simp] theorem fr_ofld {i f} : isFresh (.ofld i f) = false := rfl
@[simp] theorem fr_dun {c j a b} : isFresh (.dun c j a b) = false := rfl
@[simp] theorem fr_meth {c m j ms o} : isFresh (.meth c m j ms o es0) = false := rfl
@[simp] theorem fr_ife {t} : isFresh (.ife t a b) = false := rfl
@[simp] theorem mkF_i {e i} : mkF e (.int i) = .fz (.int i) := by unfold mkF; split <;> simp_all
@[simp] theorem mkF_b {e i} : mkF e (.bl i) = .fz (.bl i) := by unfold mkF; split <;> simp_all
@[simp] theorem mkF_n {e} : mkF e .non = .fz .non := by unfold mkF; split <;> simp_all
@[simp] theorem mkF_s {e i} : mkF e (.str i) = .fz (.str i) := by unfold mkF; split <;> simp_all
@[simp] theorem mkF_t {e} : mkF e (.tup l) = .fz (.tup l) := by unfold mkF; split <;> simp_all
@[simp] theorem mkF_o {e c fs} : mkF e (.obj c fs) = .fz (.obj c fs) := by unfold mkF; split <;> simp_all
@[simp] theorem mkF_l {e} : mkF e (.lst l) = if isFresh e = true then .lst l else .fz (.lst l) := by unfold mkF; cases isFresh e <;> rfl
@[simp] theorem pick_nil {ks} : pick ks [] = some [] := rfl
@[simp] theorem pick_r {ks p r} : pick ks (.inr p :: r) = (pick ks r).map (p :: ·) := rfl
@[simp] theorem pick_l0 {k ks r} : pick (k :: ks) (.inl 0 :: r) = (pick (k :: ks) r).map (k :: ·) := rfl
end
end
end Lh
/-! F2: loops, comprehensions -/
namespace Lh
section
variable (sp : SpT) {env : Env}
/-! for -/
def bdK (b : Ss) (k : R → Prop) : Env → Prop := fun e' => evSs sp b e' k
def forK (t : Tg) (b : Ss) (env : Env) (K : R → Prop) (items : List PV) : Prop := forL (fun x env k => bindT t x env (bdK sp b k)) items env K
@[simp] theorem bdK_e {b k e'} : bdK sp b k e' = evSs sp b e' k := rfl
@[simp ↓] theorem evS_for {t it b K} : evS sp (.for_ t it b) env K = evI sp false it env (forK sp t b env K) := rfl
theorem forK_cg {t b K l l'} (h : l = l') : forK sp t b env K l = forK sp t b env K l' := by rw [h]
theorem bdK_cg {b K e e'} (h : e = e') : bdK sp b K e = bdK sp b K e' := by rw [h]
theorem forL_inv {f : PV → Env → (R → Prop) → Prop} {K : R → Prop} (I : Nat → Env → Prop) (items : List PV)
    (hs : ∀ (k : Nat) (x : PV) (e : Env) (J : Env → Prop), items[k]? = some x → I k e → (∀ e', I (k + 1) e' → J e') → f x e (loopK J K))
    (hK : ∀ e, I items.length e → K (.nx e)) : ∀ (j : Nat) (e : Env), j ≤ items.length → I j e → forL f (items.drop j) e K := by
  intro j e hj hI
  by_cases h : j = items.length
  · subst h
    rw [List.drop_length]
    exact hK e hI
  · have hlt : j < items.length := by omega
    rw [List.drop_eq_getElem_cons hlt]
    exact hs j items[j] e (fun e' => forL f (items.drop (j + 1)) e' K) (by simp [hlt]) hI fun e' h' => forL_inv I items hs hK (j + 1) e' (by omega) h'
termination_by j => items.length - j
theorem for_map {α : Type} (xs : List α) (f : α → PV) {t : Tg} {b : Ss} {K : R → Prop} (I : Nat → Env → Prop) (h0 : I 0 env)
    (hs : ∀ (k : Nat) (a : α) (e : Env) (J : Env → Prop), xs[k]? = some a → I k e → (∀ e', I (k + 1) e' → J e') → bindT t (f a) e (bdK sp b (loopK J K)))
    (hK : ∀ e, I xs.length e → K (.nx e)) : forK sp t b env K (xs.map f) := by
  have := forL_inv (f := fun x env k => bindT t x env (bdK sp b k)) (K := K) I (xs.map f) (by
    intro k x e J hx hI hJ
    rw [List.getElem?_map] at hx
    cases h : xs[k]? with
    | none => rw [h] at hx; cases hx
    | some a => rw [h] at hx; cases hx; exact hs k a e J h hI hJ) (by simpa using hK) 0 env (Nat.zero_le _) h0
  rw [List.drop_zero] at this
  exact this
/-- a loop over range(n) -/
theorem for_range (n : Nat) {t : Tg} {b : Ss} {K : R → Prop} (I : Nat → Env → Prop) (h0 : I 0 env)
    (hs : ∀ (k : Nat) (e : Env) (J : Env → Prop), k < n → I k e → (∀ e', I (k + 1) e' → J e') → bindT t (.int (k : Int)) e (bdK sp b (loopK J K)))
    (hK : ∀ e, I n e → K (.nx e)) : forK sp t b env K ((List.range n).map fun (i : Nat) => PV.int (i : Int)) := by
  refine for_map sp (List.range n) _ I h0 ?_ (by simpa using hK)
  intro k a e J hx hI hJ
  rw [List.getElem?_eq_some_iff] at hx
  obtain ⟨h, hx⟩ := hx
  rw [List.getElem_range] at hx
  subst hx
  exact hs k e J (by simpa using h) hI hJ
/-- a loop that works on every item of a list: the rest of the list and what is done -/
theorem for_fold {α σ : Type} (f : α → PV) {t : Tg} {b : Ss} {K : R → Prop} (g : σ → α → σ) (I : σ → Env → Prop)
    : ∀ (xs : List α) (s : σ) (env : Env), I s env →
    (∀ (a : α) (s : σ) (e : Env) (J : Env → Prop), a ∈ xs → I s e → (∀ e', I (g s a) e' → J e') → bindT t (f a) e (bdK sp b (loopK J K))) →
    (∀ e, I (xs.foldl g s) e → K (.nx e)) → forK sp t b env K (xs.map f)
  | [], s, env, h0, _, hK => hK env h0
  | a :: xs, s, env, h0, hs, hK => by
    refine hs a s env (fun e' => forK sp t b e' K (xs.map f)) (by simp) h0 fun e' h' => ?_
    exact for_fold f g I xs (g s a) e' h' (fun a' s' e J ha => hs a' s' e J (by simp [ha])) hK
/-! while -/
theorem whil_ev {t : T} {b : Ss} {K : R → Prop} (W : Nat → Env → Prop) (m : Nat) (h0 : W m env)
    (hs : ∀ (m : Nat) (env : Env), W m env → evT sp t env fun c => if c = true then evSs sp b env (loopK (fun e => ∃ m', m' < m ∧ W m' e) K) else K (.nx env)) :
    evS sp (.whil t b) env K := ⟨W, ⟨m, h0⟩, hs⟩
/-! comprehensions -/
def csK (c : TO) (e : E) (k : Option PV → Prop) : Env → Prop := fun env' => evTO sp c env' fun b => if b = true then evP sp e env' fun y => k (some y) else k none
def compK (tg : Tg) (c : TO) (e : E) (vs : List Nat) (env : Env) (acc : List PV) (Q : List PV → Prop) (items : List PV) : Prop := compL (fun x k => bindT tg x (wipeE env vs) (csK sp c e k)) items acc Q
def lstK (Q : PV → Prop) : List PV → Prop := fun l => Q (.lst l)
@[simp] theorem lstK_e {Q l} : lstK Q l = Q (.lst l) := rfl
@[simp] theorem csK_e {c e k env'} : csK sp c e k env' = evTO sp c env' fun b => if b = true then evP sp e env' fun y => k (some y) else k none := rfl
@[simp ↓] theorem ev_comp {it tg c e vs Q} : evP sp (.comp it tg c e vs) env Q = evI sp true it env (compK sp tg c e vs env [] (lstK Q)) := rfl
theorem compK_cg {tg c e vs acc Q l l'} (h : l = l') : compK sp tg c e vs env acc Q l = compK sp tg c e vs env acc Q l' := by rw [h]
theorem csK_cg {c e k env'} (h : env = env') : csK sp c e k env = csK sp c e k env' := by rw [h]
theorem comp_fm {α : Type} (f : α → PV) (g : α → Option PV) {tg : Tg} {c : TO} {e : E} {vs : List Nat} {Q : List PV → Prop} : ∀ (xs : List α) (acc : List PV), acc.length + (xs.filterMap g).length ≤ 16777216 →
    (∀ a, a ∈ xs → ∀ k : Option PV → Prop, k (g a) → bindT tg (f a) (wipeE env vs) (csK sp c e k)) → Q (acc ++ xs.filterMap g) → compK sp tg c e vs env acc Q (xs.map f)
  | [], acc, _, _, hQ => by rw [List.filterMap_nil, List.append_nil] at hQ; exact hQ
  | a :: xs, acc, hl, hs, hQ => by
    refine hs a (by simp) _ ?_
    have hs' : ∀ a', a' ∈ xs → ∀ k : Option PV → Prop, k (g a') → bindT tg (f a') (wipeE env vs) (csK sp c e k) := fun a' ha => hs a' (by simp [ha])
    rw [List.filterMap_cons] at hl hQ
    cases h : g a with
    | none => rw [h] at hl hQ; exact comp_fm f g xs acc hl hs' hQ
    | some y =>
      rw [h] at hl hQ
      simp only [List.length_cons] at hl
      exact ⟨by omega, comp_fm f g xs (acc ++ [y]) (by simp; omega) hs' (by simpa using hQ)⟩
theorem fm_len {α : Type} (g : α → Option PV) (xs : List α) (h : xs.length ≤ 16777216) : ([] : List PV).length + (xs.filterMap g).length ≤ 16777216 := by
  have := List.length_filterMap_le g xs
  simp; omega
/-- [e for t in xs] -/
theorem comp_map {α : Type} (xs : List α) (f g : α → PV) {tg : Tg} {c : TO} {e : E} {vs : List Nat} {Q : PV → Prop} (hl : xs.length ≤ 16777216)
    (hs : ∀ a, a ∈ xs → ∀ k : Option PV → Prop, k (some (g a)) → bindT tg (f a) (wipeE env vs) (csK sp c e k)) (hQ : Q (.lst (xs.map g))) : compK sp tg c e vs env [] (lstK Q) (xs.map f) :=
  comp_fm sp f (fun a => some (g a)) xs [] (fm_len _ xs hl) hs (by simpa using hQ)
/-- [e for t in xs if c] -/
theorem comp_flt {α : Type} (xs : List α) (f : α → PV) (p : α → Bool) (g : α → PV) {tg : Tg} {c : TO} {e : E} {vs : List Nat} {Q : PV → Prop} (hl : xs.length ≤ 16777216)
    (hs : ∀ a, a ∈ xs → ∀ k : Option PV → Prop, (p a = true → k (some (g a))) → (p a = false → k none) → bindT tg (f a) (wipeE env vs) (csK sp c e k)) (hQ : Q (.lst ((xs.filter p).map g))) : compK sp tg c e vs env [] (lstK Q) (xs.map f) := by
  refine comp_fm sp f (fun a => if p a = true then some (g a) else none) xs [] (fm_len _ xs hl) ?_ ?_
  · intro a ha k hk
    refine hs a ha k ?_ ?_
    · intro h; simpa [h] using hk
    · intro h; simpa [h] using hk
  · have : ∀ xs : List α, xs.filterMap (fun a => if p a = true then some (g a) else none) = (xs.filter p).map g := by
      intro xs
      induction xs with
      | nil => rfl
      | cons a xs ih => cases h : p a <;> simp [List.filterMap_cons, h, ih]
    rw [List.nil_append, this]; exact hQ
def c2iK (tg1 : Tg) (c1 : TO) (e : E) (vs1 : List Nat) (env' : Env) (acc : List PV) (k : List PV → Prop) : List PV → Prop := fun items1 => compK sp tg1 c1 e vs1 env' acc k items1
def c2K (c : TO) (it1 : It) (tg1 : Tg) (c1 : TO) (e : E) (vs1 : List Nat) (acc : List PV) (k : List PV → Prop) : Env → Prop := fun env' => evTO sp c env' fun b => if b = true then evI sp false it1 env' (compK sp tg1 c1 e vs1 env' acc k) else k acc
def comp2K (tg : Tg) (c : TO) (it1 : It) (tg1 : Tg) (c1 : TO) (e : E) (vs vs1 : List Nat) (env : Env) (acc : List PV) (Q : List PV → Prop) (items : List PV) : Prop :=
  compL2 (fun x acc k => bindT tg x (wipeE env vs) (c2K sp c it1 tg1 c1 e vs1 acc k)) items acc Q
@[simp] theorem c2K_e {c it1 tg1 c1 e vs1 acc k env'} : c2K sp c it1 tg1 c1 e vs1 acc k env' = evTO sp c env' fun b => if b = true then evI sp false it1 env' (compK sp tg1 c1 e vs1 env' acc k) else k acc := rfl
@[simp ↓] theorem ev_comp2 {it tg c it1 tg1 c1 e vs vs1 Q} : evP sp (.comp2 it tg c it1 tg1 c1 e vs vs1) env Q = evI sp true it env (comp2K sp tg c it1 tg1 c1 e vs vs1 env [] (lstK Q)) := rfl
theorem comp2K_cg {tg c it1 tg1 c1 e vs vs1 acc Q l l'} (h : l = l') : comp2K sp tg c it1 tg1 c1 e vs vs1 env acc Q l = comp2K sp tg c it1 tg1 c1 e vs vs1 env acc Q l' := by rw [h]
theorem c2K_cg {c it1 tg1 c1 e vs1 acc k env'} (h : env = env') : c2K sp c it1 tg1 c1 e vs1 acc k env = c2K sp c it1 tg1 c1 e vs1 acc k env' := by rw [h]
theorem comp2_fm {α : Type} (f : α → PV) (g : α → List PV) {tg : Tg} {c : TO} {it1 : It} {tg1 : Tg} {c1 : TO} {e : E} {vs vs1 : List Nat} {Q : List PV → Prop} : ∀ (xs : List α) (acc : List PV),
    (∀ a, a ∈ xs → ∀ acc k, acc.length + (g a).length ≤ 16777216 → k (acc ++ g a) → bindT tg (f a) (wipeE env vs) (c2K sp c it1 tg1 c1 e vs1 acc k)) →
    acc.length + (xs.flatMap g).length ≤ 16777216 → Q (acc ++ xs.flatMap g) → comp2K sp tg c it1 tg1 c1 e vs vs1 env acc Q (xs.map f)
  | [], acc, _, _, hQ => by rw [List.flatMap_nil, List.append_nil] at hQ; exact hQ
  | a :: xs, acc, hs, hl, hQ => by
    rw [List.flatMap_cons, List.length_append] at hl
    refine hs a (by simp) acc _ (by omega) ?_
    exact comp2_fm f g xs (acc ++ g a) (fun a' ha => hs a' (by simp [ha])) (by rw [List.length_append]; omega) (by rw [List.append_assoc]; rw [List.flatMap_cons] at hQ; exact hQ)
end
theorem rangeL_0 (n : Nat) : rangeL 0 n = (List.range n).map fun (i : Nat) => PV.int (i : Int) := by
  simp [rangeL]
theorem zipWith_tup {α β : Type} (xs : List α) (ys : List β) (f : α → PV) (g : β → PV) : List.zipWith (fun p q => PV.tup [p, q]) (xs.map f) (ys.map g) = (xs.zip ys).map fun ab => .tup [f ab.1, g ab.2] := by
  rw [List.zipWith_map, ← List.map_uncurry_zip_eq_zipWith]
  rfl
end Lh
/-! F3: the printed lists of statements and expressions; what many laws share -/
namespace Lh
section
variable (sp : SpT) {env : Env} {K : R → Prop} {os : List OV} {ms : List Md} {m : Md}
@[simp] theorem evSs_ss0 : evSs sp (ss []) env K = K (.nx env) := rfl
@[simp] theorem evSs_ss {s l} : evSs sp (ss (s :: l)) env K = evS sp s env (seqK sp (ss l) K) := rfl
@[simp ↓] theorem evEs_es0 {Q} : evEs sp (es []) env Q = Q [] := rfl
@[simp ↓] theorem evEs_es {e l Q} : evEs sp (es (e :: l)) env Q = evP sp e env fun p => evEs sp (es l) env fun ps => Q (p :: ps) := rfl
@[simp ↓] theorem evAs_es0 {Q} : evAs sp (es []) ms env Q = Q [] := evAs_nil sp
@[simp ↓] theorem evAs_es {e l Q} : evAs sp (es (e :: l)) (m :: ms) env Q = argR m e (evP sp e env) env fun t => evAs sp (es l) ms env fun ts => Q (t :: ts) := rfl
@[simp] theorem ioB_es0 : ioB (es []) ms env = true := ioB_nil
@[simp] theorem ioB_va' {e l} : ioB (es (e :: l)) (.va :: ms) env = ioB (es l) ms env := ioB_va
@[simp] theorem ioB_bo' {e l} : ioB (es (e :: l)) (.bo :: ms) env = ioB (es l) ms env := ioB_bo
@[simp] theorem ioB_io' {i l} : ioB (es (.var i :: l)) (.io :: ms) env = (ioO env[i]? && ioB (es l) ms env) := rfl
@[simp] theorem wrB_es0 : wrB (es []) ms [] env = some env := wrB_nil
@[simp] theorem wrB_va' {e l} : wrB (es (e :: l)) (.va :: ms) os env = wrB (es l) ms os env := wrB_va
@[simp] theorem wrB_bo' {e l} : wrB (es (e :: l)) (.bo :: ms) os env = wrB (es l) ms os env := wrB_bo
@[simp] theorem wrB_io' {i l t} : wrB (es (.var i :: l)) (.io :: ms) (t :: os) env = wrO env[i]? (es l) ms os t i env := rfl
end
end Lh
/-! P0: houses and standings as plain data -/
namespace Lt
open Lh
@[simp] theorem lookup_c {β : Type} {k a : Nat} {b : β} {l : List (Nat × β)} : List.lookup k ((a, b) :: l) = if k = a then some b else List.lookup k l := by
  rw [List.lookup]
  by_cases h : k = a
  · simp [h]
  · have : (k == a) = false := by simpa using h
    simp [h, this]
structure Dr where
  a : Nat
  b : Nat
  c : List Nat
structure Hs where
  rooms : Nat
  doors : List Dr
  tr : List Nat
structure St where
  hands : List (Nat × Nat)
  places : List Nat
def nP (n : Nat) : PV := .int n
def lP (n : Nat) : PV := .str [n]
def bP (b : Bool) : PV := .bl b
def dP (d : Dr) : PV := .tup [.int d.a, .int d.b, .str d.c]
def hP (h : Nat × Nat) : PV := .tup [.str [h.1], .int h.2]
def HP (h : Hs) : PV := .obj 0 [(4, .int h.rooms), (3, .tup (h.doors.map dP)), (2, .str h.tr)]
def HO (h : Hs) : List (Nat × OF) := [(4, .fz (.int h.rooms)), (3, .fz (.tup (h.doors.map dP))), (2, .fz (.str h.tr))]
def SP (s : St) : PV := .obj 1 [(0, .tup (s.hands.map hP)), (1, .tup (s.places.map nP))]
def SO (s : St) : List (Nat × OF) := [(0, .fz (.tup (s.hands.map hP))), (1, .fz (.tup (s.places.map nP)))]
@[simp] theorem nP_e {n} : nP n = .int (n : Int) := rfl
@[simp] theorem lP_e {n} : lP n = .str [n] := rfl
@[simp] theorem bP_e {n} : bP n = .bl n := rfl
@[simp 5000] theorem frz_HO {h} : frzO (.obj 0 (HO h)) = HP h := rfl
@[simp 5000] theorem frz_SO {s} : frzO (.obj 1 (SO s)) = SP s := rfl
section
variable {Q : PV → Prop} {h : Hs} {s : St} {d : Dr} {q : Nat × Nat}
@[simp] theorem HP_4 : fldR (HP h) 4 Q = Q (.int h.rooms) := rfl
@[simp] theorem HP_3 : fldR (HP h) 3 Q = Q (.tup (h.doors.map dP)) := rfl
@[simp] theorem HP_2 : fldR (HP h) 2 Q = Q (.str h.tr) := rfl
@[simp] theorem SP_0 : fldR (SP s) 0 Q = Q (.tup (s.hands.map hP)) := rfl
@[simp] theorem SP_1 : fldR (SP s) 1 Q = Q (.tup (s.places.map nP)) := rfl
@[simp] theorem mkS_HP {e} : mkS e (HP h) = .fz (HP h) := by unfold mkS; split <;> simp_all [HP]
@[simp] theorem mkS_SP {e} : mkS e (SP s) = .fz (SP s) := by unfold mkS; split <;> simp_all [SP]
@[simp] theorem mkS_dP {e} : mkS e (dP d) = .fz (dP d) := by unfold mkS; split <;> simp_all [dP]
@[simp] theorem mkS_hP {e} : mkS e (hP q) = .fz (hP q) := by unfold mkS; split <;> simp_all [hP]
@[simp] theorem isTy_HP : isTy (HP h) (.cls 0) = true := rfl
@[simp] theorem isTy_SP : isTy (SP s) (.cls 1) = true := rfl
@[simp] theorem isTy_dP : isTy (dP d) .tuple = true := rfl
@[simp] theorem isTy_hP : isTy (hP q) .tuple = true := rfl
@[simp] theorem tyOk_HP : tyOk (HP h) = true := rfl
@[simp] theorem tyOk_SP : tyOk (SP s) = true := rfl
@[simp] theorem tyOk_hP : tyOk (hP q) = true := rfl
@[simp] theorem tyOk_dP : tyOk (dP d) = true := rfl
theorem ix0 {x : PV} {l : List PV} : ixR (.tup (x :: l)) (.int 0) Q = Q x := by simp
theorem ix1 {x y : PV} {l : List PV} : ixR (.tup (x :: y :: l)) (.int 1) Q = Q y := by simp
theorem ixt_nat {l : List PV} {n : Nat} {p : PV} (h : l[n]? = some p) : ixR (.tup l) (.int (n : Int)) Q = Q p := by
  have hn : n < l.length := (List.getElem?_eq_some_iff.mp h).1
  refine propext ⟨fun ⟨k, p', hk, hp, q⟩ => ?_, fun q => ⟨n, p, by simp [hn], h, q⟩⟩
  rw [pyIx_nat_some] at hk
  rw [hk.2, h] at hp
  cases hp; exact q
theorem ixl_nat {l : List PV} {n : Nat} {p : PV} (h : l[n]? = some p) : ixR (.lst l) (.int (n : Int)) Q = Q p := by
  have hn : n < l.length := (List.getElem?_eq_some_iff.mp h).1
  refine propext ⟨fun ⟨k, p', hk, hp, q⟩ => ?_, fun q => ⟨n, p, by simp [hn], h, q⟩⟩
  rw [pyIx_nat_some] at hk
  rw [hk.2, h] at hp
  cases hp; exact q
theorem ix2 {x y z : PV} {l : List PV} : ixR (.tup (x :: y :: z :: l)) (.int 2) Q = Q z := ixt_nat (n := 2) rfl
theorem ix3 {x y z u : PV} {l : List PV} : ixR (.tup (x :: y :: z :: u :: l)) (.int 3) Q = Q u := ixt_nat (n := 3) rfl
theorem ix4 {x y z u v : PV} {l : List PV} : ixR (.tup (x :: y :: z :: u :: v :: l)) (.int 4) Q = Q v := ixt_nat (n := 4) rfl
theorem ix5 {x y z u v w : PV} {l : List PV} : ixR (.tup (x :: y :: z :: u :: v :: w :: l)) (.int 5) Q = Q w := ixt_nat (n := 5) rfl
theorem ix6 {x y z u v w x' : PV} {l : List PV} : ixR (.tup (x :: y :: z :: u :: v :: w :: x' :: l)) (.int 6) Q = Q x' := ixt_nat (n := 6) rfl
@[simp] theorem dP_0 : ixR (dP d) (.int 0) Q = Q (.int d.a) := ix0
@[simp] theorem dP_1 : ixR (dP d) (.int 1) Q = Q (.int d.b) := ix1
@[simp] theorem dP_2 : ixR (dP d) (.int 2) Q = Q (.str d.c) := ix2
@[simp] theorem hP_0 : ixR (hP q) (.int 0) Q = Q (.str [q.1]) := ix0
@[simp] theorem hP_1 : ixR (hP q) (.int 1) Q = Q (.int q.2) := ix1
@[simp] theorem len_hP : bi1R .len (hP q) Q = Q (.int 2) := rfl
@[simp] theorem tup_hP : bi1R .tuple (hP q) Q = Q (hP q) := rfl
@[simp] theorem bind_dP {t1 t2 t3 env Q} : bindT (.tp [t1, t2, t3]) (dP d) env Q = bindTs [t1, t2, t3] [.int d.a, .int d.b, .str d.c] env Q := by simp [dP]
@[simp] theorem bind_hP {t1 t2 env Q} : bindT (.tp [t1, t2]) (hP q) env Q = bindTs [t1, t2] [.str [q.1], .int q.2] env Q := by simp [hP]
end
theorem dP_mk {a b : Nat} {c : List Nat} : PV.tup [.int (a : Int), .int (b : Int), .str c] = dP ⟨a, b, c⟩ := rfl
theorem hP_mk {t r : Nat} : PV.tup [.str [t], .int (r : Int)] = hP (t, r) := rfl
/-! a house, a standing -/
structure DrOk (n : Nat) (tr : List Nat) (d : Dr) : Prop where
  a : d.a < n
  b : d.b < n
  ne : d.a ≠ d.b
  sub : ∀ x ∈ d.c, x ∈ tr
  sup : ∀ x ∈ tr, x ∈ d.c
  len : d.c.length < 1000
structure TrOk (t : List Nat) : Prop where
  two : 2 ≤ t.length
  most : t.length < 1000
  nd : t.Nodup
  cap : ∀ x ∈ t, 65 ≤ x ∧ x ≤ 90
/-- a set of rooms that no door leaves is all or nothing -/
def Conn (n : Nat) (ds : List Dr) : Prop := ∀ S : Nat → Prop, (∀ d ∈ ds, S d.a ↔ S d.b) → ∀ i j, i < n → j < n → S i → S j
structure HsOk (h : Hs) : Prop where
  pos : 0 < h.rooms
  most : h.rooms < 1000
  many : h.doors.length < 1000
  tr : TrOk h.tr
  dr : ∀ d ∈ h.doors, DrOk h.rooms h.tr d
  conn : Conn h.rooms h.doors
theorem DrOk.pos {n : Nat} {tr : List Nat} {d : Dr} (D : DrOk n tr d) (t : TrOk tr) : 0 < d.c.length := by
  cases h : tr with
  | nil => have := t.two; rw [h] at this; simp at this
  | cons x l =>
    have := D.sup x (by rw [h]; simp)
    cases hc : d.c with
    | nil => rw [hc] at this; cases this
    | cons => simp
structure StOk (h : Hs) (s : St) : Prop where
  len : s.places.length = h.doors.length
  pl : ∀ (k p : Nat) (d : Dr), s.places[k]? = some p → h.doors[k]? = some d → p < d.c.length
  tr : ∀ q ∈ s.hands, q.1 = 42 ∨ q.1 ∈ h.tr
  rm : ∀ q ∈ s.hands, q.2 < h.rooms
  many : s.hands.length < 1000
/-- a door's light -/
def lightOf (back : Int) (d : Dr) (p : Nat) : Nat := d.c.getD (((p : Int) - back) % (d.c.length : Int)).toNat 0
def lights (h : Hs) (s : St) (back : Int) : List Nat := (s.places.zip h.doors).map fun q => lightOf back q.2 q.1
end Lt
/-! P1: what each def is asked to keep -/
namespace Lt
open Lh
/-! ways over lit doors -/
def Adj (z : List (Nat × Dr)) (t x y : Nat) : Prop := ∃ q ∈ z, q.1 = t ∧ ((q.2.a = x ∧ q.2.b = y) ∨ (q.2.a = y ∧ q.2.b = x))
inductive Pt (A : Nat → Nat → Prop) : Nat → Nat → Nat → Prop
  | nil {x} : Pt A 0 x x
  | cons {k x y z} : A x y → Pt A k y z → Pt A (k + 1) x z
def reach (z : List (Nat × Dr)) (t : Nat) (rs : List Nat) (i : Nat) : Prop := ∃ r ∈ rs, ∃ k, Pt (Adj z t) k i r
noncomputable def reachB (z : List (Nat × Dr)) (t : Nat) (rs : List Nat) (i : Nat) : Bool := @decide (reach z t rs i) (Classical.propDecidable _)
theorem reachB_t {z t rs i} : reachB z t rs i = true ↔ reach z t rs i := by simp [reachB]
def roomsOf (hs : List (Nat × Nat)) (t : Nat) : List Nat := (hs.filter fun q => decide (q.1 = t)).map (·.2)
noncomputable def sharedL (n : Nat) (z : List (Nat × Dr)) (hs : List (Nat × Nat)) : List Nat := (List.range n).filter fun i => reachB z 82 (roomsOf hs 82) i && reachB z 66 (roomsOf hs 66) i
noncomputable def shared (h : Hs) (s : St) (back : Int) : List Nat := sharedL h.rooms ((lights h s back).zip h.doors) s.hands
def ledgers (h : Hs) (s : St) : List Nat := (List.range h.rooms).map fun i => ((s.hands.filter fun q => decide (q.2 = i)).length + ((s.places.zip h.doors).map fun q => if q.2.a = i ∨ q.2.b = i then q.1 else 0).sum) % 2
def mayB (h : Hs) (s : St) (i j : Nat) : Bool := match s.hands[i]?, h.doors[j]?, s.places[j]? with
  | some q, some d, some p => decide (q.2 = d.a ∨ q.2 = d.b) && decide (q.1 = 42 ∨ q.1 = lightOf 0 d p)
  | _, _, _ => false
def afterD (h : Hs) (s : St) (i j : Nat) : St := match s.hands[i]?, h.doors[j]?, s.places[j]? with
  | some q, some d, some p => ⟨s.hands.set i (q.1, d.a + d.b - q.2), s.places.set j ((p + 1) % d.c.length)⟩
  | _, _, _ => s
def deeds (h : Hs) (s : St) : List (Nat × Nat) := (List.range s.hands.length).flatMap fun i => ((List.range h.doors.length).filter (mayB h s i)).map fun j => (i, j)
def pP (q : Nat × Nat) : PV := .tup [.int q.1, .int q.2]
noncomputable def safe (h : Hs) (s : St) : List (Nat × Nat) := (deeds h s).filter fun q => !(shared h (afterD h s q.1 q.2) 0).isEmpty
def evenC (c : List Nat) : List Nat := if c.length % 2 = 1 then c ++ c.take 1 else c
def moved (ls spots : List Nat) : List Nat := (List.range ls.length).map fun i => (ls.getD i 0 + spots.count i) % 2
def addD (h : Hs) (d : Dr) : Hs := ⟨h.rooms, h.doors ++ [d], h.tr⟩
def addR (h : Hs) (d : Dr) : Hs := ⟨h.rooms + 1, h.doors ++ [d], h.tr⟩
def addP (s : St) (p : Nat) : St := ⟨s.hands, s.places ++ [p]⟩
def addH (s : St) (q : Nat × Nat) : St := ⟨s.hands ++ [q], s.places⟩
def stP (h : Hs) (s : St) : PV := .tup [.int h.rooms, .lst (h.doors.map dP), .lst (s.hands.map hP), .lst (s.places.map nP), .lst ((ledgers h s).map nP), HP h, SP s]
/-- a cycle as the law draws it -/
structure CyOk (m : Nat) (c : List Nat) : Prop where
  r : 82 ∈ c
  b : 66 ∈ c
  all : ∀ x ∈ c, x = 82 ∨ x = 66
  len : c.length ≤ m
structure Good (k : Nat) (h : Hs) (s : St) : Prop where
  hs : HsOk h
  tr : h.tr = [82, 66]
  st : StOk h s
  nm : ∀ q ∈ s.hands, q.1 ≠ 42
  live : shared h s 0 ≠ []
  n1 : h.rooms ≤ 4 + k
  n2 : h.doors.length ≤ 4 + k
  n3 : s.hands.length ≤ 4 + k
  ev : ∀ d ∈ h.doors, d.c.length % 2 = 0
abbrev Sp1 := List OV → (PV → List OV → Prop) → Prop
abbrev s_is_index : Sp1 := fun ts Q => ∃ a b : Int, ts = [.fz (.int a), .fz (.int b)] ∧ Q (.bl (decide (0 ≤ a) && decide (a < b))) []
abbrev s__are_trades : Sp1 := fun ts Q => ∃ t, ts = [.fz (.str t)] ∧ TrOk t ∧ Q (.bl true) []
abbrev s__is_connected : Sp1 := fun ts Q => ∃ (n : Nat) (ds : List Dr), ts = [.fz (.int n), .fz (.tup (ds.map dP))] ∧ (0 < n ∧ n < 1000 ∧ ds.length < 1000 ∧ (∀ d ∈ ds, d.a < n ∧ d.b < n) ∧ Conn n ds) ∧ Q (.bl true) []
abbrev s_Standing_init : Sp1 := fun ts Q => ∃ s x y, ts = [.obj 1 [], .fz x, .fz y] ∧ (s.hands.length ≤ 1000 ∧ s.places.length ≤ 1000) ∧ (x = .lst (s.hands.map hP) ∨ x = .tup (s.hands.map hP)) ∧ (y = .lst (s.places.map nP) ∨ y = .tup (s.places.map nP)) ∧ Q .non [.obj 1 (SO s)]
abbrev s__is_trade : Sp1 := fun ts Q => ∃ h t, ts = [.fz (HP h), .fz (.str [t])] ∧ Q (.bl (decide (t = 42 ∨ t ∈ h.tr))) []
abbrev s_lights_at : Sp1 := fun ts Q => ∃ h s back, ts = [.fz (HP h), .fz (SP s), .fz (.int back)] ∧ (HsOk h ∧ StOk h s) ∧ Q (.lst ((lights h s back).map lP)) []
abbrev s_need_trade : Sp1 := fun ts Q => ∃ h t, ts = [.fz (HP h), .fz (.str [t])] ∧ t ∈ h.tr ∧ Q .non []
abbrev s_need_no_masters : Sp1 := fun ts Q => ∃ s, ts = [.fz (SP s)] ∧ (∀ q ∈ s.hands, q.1 ≠ 42) ∧ Q .non []
abbrev s__step : Sp1 := fun ts Q => ∃ (h : Hs) (hs : List (Nat × Nat)) (ps : List Nat) (i j : Nat) (q : Nat × Nat) (d : Dr) (p : Nat), ts = [.fz (HP h), .lst (hs.map hP), .lst (ps.map nP), .fz (.int i), .fz (.int j)] ∧
  (hs[i]? = some q ∧ h.doors[j]? = some d ∧ ps[j]? = some p ∧ (q.2 = d.a ∨ q.2 = d.b) ∧ 0 < d.c.length ∧ d.c.length < 1000) ∧ Q .non [.lst ((hs.set i (q.1, d.a + d.b - q.2)).map hP), .lst ((ps.set j ((p + 1) % d.c.length)).map nP)]
abbrev s_rooms_of : Sp1 := fun ts Q => ∃ s t, ts = [.fz (SP s), .fz (.str [t])] ∧ s.hands.length ≤ 1000 ∧ Q (.lst ((roomsOf s.hands t).map nP)) []
abbrev s_walk_from : Sp1 := fun ts Q => ∃ (h : Hs) (rs ls : List Nat) (t : Nat), ts = [.fz (HP h), .fz (.lst (rs.map nP)), .fz (.lst (ls.map lP)), .fz (.str [t])] ∧ (HsOk h) ∧ Q (.lst (((List.range h.rooms).filter (reachB (ls.zip h.doors) t rs)).map nP)) []
abbrev s__room_ledgers : Sp1 := fun ts Q => ∃ h s, ts = [.fz (HP h), .fz (.tup (s.hands.map hP)), .fz (.tup (s.places.map nP))] ∧ (HsOk h ∧ StOk h s) ∧ Q (.lst ((ledgers h s).map nP)) []
abbrev s__law_cell : Sp1 := fun ts Q => ∃ (ns : List Int) (k : Int), ts = [.fz (.ro (ns.map .int)), .fz (.int k)] ∧ 0 ≤ k ∧ ∀ i : Int, Q (.int i) []
abbrev s__law_row : Sp1 := fun ts Q => ∃ (c : Int) (ns : List Nat), ts = [.fz (.int c), .fz (.lst (ns.map nP))] ∧ (ns.length ≤ 10000 ∧ ∀ n ∈ ns, 0 < n ∧ n < 1000000) ∧ ∀ r : List Nat, r.length = ns.length → (∀ (k x n : Nat), r[k]? = some x → ns[k]? = some n → x < n) → Q (.lst (r.map nP)) []
abbrev s__law_odd_cycle : Sp1 := fun ts Q => False
abbrev s__law_any_cycle : Sp1 := fun ts Q => ∃ (r : List Nat) (at_ m : Nat), ts = [.fz (.lst (r.map nP)), .fz (.int at_), .fz (.int m)] ∧ (2 ≤ m ∧ m < 100 ∧ at_ + m < r.length) ∧ ∀ c, CyOk m c → Q (.str c) []
abbrev s__law_is_integer : Sp1 := fun ts Q => ∃ i : Int, ts = [.fz (.int i)] ∧ Q (.bl true) []
abbrev s__law_deed : Sp1 := fun ts Q => ∃ h s i j, ts = [.fz (.lst (h.doors.map dP)), .fz (.lst (s.hands.map hP)), .fz (.lst (s.places.map nP)), .fz (.int (i : Nat)), .fz (.int (j : Nat))] ∧ (HsOk h ∧ StOk h s ∧ i < s.hands.length ∧ j < h.doors.length) ∧ Q (if mayB h s i j = true then .tup [.lst ((afterD h s i j).hands.map hP), .lst ((afterD h s i j).places.map nP)] else .non) []
abbrev s__law_lights : Sp1 := fun ts Q => ∃ h s back, ts = [.fz (.lst (h.doors.map dP)), .fz (.lst (s.places.map nP)), .fz (.int back)] ∧ (HsOk h ∧ StOk h s) ∧ Q (.lst ((lights h s back).map lP)) []
abbrev s__law_spread : Sp1 := fun ts Q => ∃ (h : Hs) (hs : List (Nat × Nat)) (ls : List Nat) (t : Nat), ts = [.fz (.int (h.rooms : Nat)), .fz (.lst (h.doors.map dP)), .fz (.lst (hs.map hP)), .fz (.lst (ls.map lP)), .fz (.str [t])] ∧ (HsOk h ∧ ls.length = h.doors.length ∧ (∀ q ∈ hs, q.2 < h.rooms)) ∧ Q (.lst (((List.range h.rooms).map (reachB (ls.zip h.doors) t (roomsOf hs t))).map bP)) []
abbrev s__law_ledgers : Sp1 := fun ts Q => ∃ h s, ts = [.fz (.int (h.rooms : Nat)), .fz (.lst (h.doors.map dP)), .fz (.lst (s.hands.map hP)), .fz (.lst (s.places.map nP))] ∧ (HsOk h ∧ StOk h s) ∧ Q (.lst ((ledgers h s).map nP)) []
abbrev s__law_even : Sp1 := fun ts Q => ∃ c, ts = [.fz (.str c)] ∧ (0 < c.length ∧ c.length < 1000) ∧ Q (.str (evenC c)) []
abbrev s__is_door : Sp1 := fun ts Q => ∃ (n : Nat) (tr : List Nat) (d : Dr), ts = [.fz (.int n), .fz (.str tr), .fz (dP d)] ∧ (TrOk tr ∧ DrOk n tr d) ∧ Q (.bl true) []
abbrev s_fits : Sp1 := fun ts Q => ∃ h s, ts = [.fz (HP h), .fz (SP s)] ∧ (HsOk h ∧ StOk h s) ∧ Q (.bl true) []
abbrev s_need_rooms : Sp1 := fun ts Q => ∃ (h : Hs) (rs : List Nat), ts = [.fz (HP h), .fz (.lst (rs.map nP))] ∧ (∀ r ∈ rs, r < h.rooms) ∧ Q .non []
abbrev s_need_doors : Sp1 := fun ts Q => ∃ (h : Hs) (rs : List Nat), ts = [.fz (HP h), .fz (.lst (rs.map nP))] ∧ (∀ r ∈ rs, r < h.doors.length) ∧ Q .non []
abbrev s_need_hands : Sp1 := fun ts Q => ∃ (s : St) (rs : List Nat), ts = [.fz (SP s), .fz (.lst (rs.map nP))] ∧ (∀ r ∈ rs, r < s.hands.length) ∧ Q .non []
abbrev s_need_two_trades : Sp1 := fun ts Q => ∃ h s, ts = [.fz (HP h), .fz (SP s)] ∧ (h.tr = [82, 66] ∧ ∀ q ∈ s.hands, q.1 ≠ 42) ∧ Q .non []
abbrev s__may_pass : Sp1 := fun ts Q => ∃ (h : Hs) (s : St) (i j : Nat) (x y : PV), ts = [.fz (HP h), .fz x, .fz y, .fz (.int i), .fz (.int j)] ∧ ((x = .tup (s.hands.map hP) ∧ y = .tup (s.places.map nP)) ∨ (x = .lst (s.hands.map hP) ∧ y = .lst (s.places.map nP))) ∧ (HsOk h ∧ StOk h s ∧ i < s.hands.length ∧ j < h.doors.length) ∧ Q (.bl (mayB h s i j)) []
abbrev s_after_deed : Sp1 := fun ts Q => ∃ (h : Hs) (s : St) (i j : Nat), ts = [.fz (HP h), .fz (SP s), .fz (.int i), .fz (.int j)] ∧ (HsOk h ∧ StOk h s ∧ mayB h s i j = true) ∧ Q (SP (afterD h s i j)) []
abbrev s_spread_over : Sp1 := fun ts Q => ∃ (h : Hs) (s : St) (ls : List Nat) (t : Nat), ts = [.fz (HP h), .fz (SP s), .fz (.lst (ls.map lP)), .fz (.str [t])] ∧ (HsOk h ∧ s.hands.length ≤ 1000) ∧ Q (.lst (((List.range h.rooms).filter (reachB (ls.zip h.doors) t (roomsOf s.hands t))).map nP)) []
abbrev s__law_house : Sp1 := fun ts Q => ∃ (c : Int) (m e l : Nat), ts = [.fz (.int c), .fz (.int m), .fz (.int e), .fz (.int l), .fz (.bl false)] ∧ (1 ≤ m ∧ m ≤ 10 ∧ e ≤ 3 ∧ 2 ≤ l ∧ l ≤ 20) ∧
  ∀ (n : Nat) (ds : List Dr), 1 ≤ n → n ≤ m → ds.length ≤ n - 1 + e → (∀ d ∈ ds, d.a < n ∧ d.b < n ∧ d.a ≠ d.b ∧ CyOk l d.c) → Conn n ds → Q (.tup [.int n, .lst (ds.map dP)]) []
abbrev s__law_hands : Sp1 := fun ts Q => ∃ (c : Int) (n : Nat) (g : List Nat) (m : Nat), ts = [.fz (.int c), .fz (.int n), .fz (.str g), .fz (.int m)] ∧ (0 < n ∧ n < 1000 ∧ 0 < g.length ∧ g.length < 1000 ∧ m < 100) ∧
  ∀ hs : List (Nat × Nat), hs.length ≤ m → (∀ q ∈ hs, q.1 ∈ g ∧ q.2 < n) → Q (.lst (hs.map hP)) []
abbrev s__law_places : Sp1 := fun ts Q => ∃ (c : Int) (ds : List Dr), ts = [.fz (.int c), .fz (.lst (ds.map dP))] ∧ (ds.length < 1000 ∧ ∀ d ∈ ds, 0 < d.c.length ∧ d.c.length < 1000) ∧
  ∀ ps : List Nat, ps.length = ds.length → (∀ (k p : Nat) (d : Dr), ps[k]? = some p → ds[k]? = some d → p < d.c.length) → Q (.lst (ps.map nP)) []
abbrev s__law_integers : Sp1 := fun ts Q => ∃ ns : List Nat, ts = [.fz (.lst (ns.map nP))] ∧ ns.length ≤ 1000 ∧ Q (.bl true) []
abbrev s__law_is_standing : Sp1 := fun ts Q => ∃ s, ts = [.fz (SP s), .fz (.lst (s.hands.map hP)), .fz (.lst (s.places.map nP))] ∧ (s.hands.length ≤ 1000 ∧ s.places.length ≤ 1000) ∧ Q (.bl true) []
abbrev s__law_common : Sp1 := fun ts Q => ∃ h s back, ts = [.fz (.int (h.rooms : Nat)), .fz (.lst (h.doors.map dP)), .fz (.lst (s.hands.map hP)), .fz (.lst (s.places.map nP)), .fz (.int back)] ∧ (HsOk h ∧ StOk h s) ∧ Q (.lst ((shared h s back).map nP)) []
abbrev s_House_init : Sp1 := fun ts Q => ∃ h x, ts = [.obj 0 [], .fz (.int (h.rooms : Nat)), .fz x, .fz (.str h.tr)] ∧ HsOk h ∧ (x = .lst (h.doors.map dP) ∨ x = .tup (h.doors.map dP)) ∧ Q .non [.obj 0 (HO h)]
abbrev s_need_fits : Sp1 := fun ts Q => ∃ h s, ts = [.fz (HP h), .fz (SP s)] ∧ (HsOk h ∧ StOk h s) ∧ Q .non []
abbrev s_is_possible : Sp1 := fun ts Q => ∃ (h : Hs) (s : St) (i j : Nat), ts = [.fz (HP h), .fz (SP s), .fz (.int i), .fz (.int j)] ∧ (HsOk h ∧ StOk h s ∧ i < s.hands.length ∧ j < h.doors.length) ∧ Q (.bl (mayB h s i j)) []
abbrev s_shared_rooms : Sp1 := fun ts Q => ∃ h s back, ts = [.fz (HP h), .fz (SP s), .fz (.int back)] ∧ (HsOk h ∧ StOk h s) ∧ Q (.lst ((shared h s back).map nP)) []
abbrev s__law_live : Sp1 := fun ts Q => ∃ (c1 c2 : Int) (h : Hs) (m : Nat), ts = [.fz (.int c1), .fz (.int c2), .fz (.int (h.rooms : Nat)), .fz (.lst (h.doors.map dP)), .fz (.int m)] ∧ (HsOk h ∧ h.tr = [82, 66] ∧ 2 ≤ m ∧ m < 100) ∧
  ∀ s, StOk h s → s.hands.length ≤ m → (∀ q ∈ s.hands, q.1 ≠ 42) → shared h s 0 ≠ [] → Q (.tup [.lst (s.hands.map hP), .lst (s.places.map nP)]) []
abbrev s_do : Sp1 := s_after_deed
abbrev s_possible_deeds : Sp1 := fun ts Q => ∃ h s, ts = [.fz (HP h), .fz (SP s)] ∧ (HsOk h ∧ StOk h s) ∧ Q (.lst ((deeds h s).map pP)) []
abbrev s_meeting_rooms : Sp1 := fun ts Q => ∃ h s, ts = [.fz (HP h), .fz (SP s)] ∧ (HsOk h ∧ StOk h s ∧ h.tr = [82, 66] ∧ ∀ q ∈ s.hands, q.1 ≠ 42) ∧ Q (.lst ((shared h s 0).map nP)) []
abbrev s__grown : Sp1 := fun ts Q => ∃ (h : Hs) (d : Dr) (hs : List (Nat × Nat)) (ps : List Nat) (p : Nat), ts = [.fz (.str h.tr), .fz (.int h.rooms), .fz (.tup ((h.doors ++ [d]).map dP)), .fz (.tup (hs.map hP)), .fz (.tup (ps.map nP)), .fz (.int p)] ∧ (HsOk (addD h d) ∧ p < d.c.length ∧ hs.length ≤ 1000 ∧ ps.length < 1000) ∧ Q (.tup [HP (addD h d), SP ⟨hs, ps ++ [p]⟩]) []
abbrev s_with_hand : Sp1 := fun ts Q => ∃ (h : Hs) (s : St) (t r : Nat), ts = [.fz (HP h), .fz (SP s), .fz (.str [t]), .fz (.int r)] ∧ (HsOk h ∧ StOk h s ∧ (t = 42 ∨ t ∈ h.tr) ∧ r < h.rooms) ∧ Q (SP (addH s (t, r))) []
abbrev s_ledgers_of : Sp1 := fun ts Q => ∃ h s, ts = [.fz (HP h), .fz (SP s)] ∧ (HsOk h ∧ StOk h s) ∧ Q (.lst ((ledgers h s).map nP)) []
abbrev s_is_live : Sp1 := fun ts Q => ∃ h s, ts = [.fz (HP h), .fz (SP s)] ∧ (HsOk h ∧ StOk h s ∧ h.tr = [82, 66] ∧ ∀ q ∈ s.hands, q.1 ≠ 42) ∧ Q (.bl (!(shared h s 0).isEmpty)) []
abbrev s_safe_deeds : Sp1 := fun ts Q => ∃ h s, ts = [.fz (HP h), .fz (SP s)] ∧ (HsOk h ∧ StOk h s ∧ h.tr = [82, 66] ∧ ∀ q ∈ s.hands, q.1 ≠ 42) ∧ Q (.lst ((safe h s).map pP)) []
abbrev s_with_door : Sp1 := fun ts Q => ∃ (h : Hs) (s : St) (d : Dr) (p : Nat), ts = [.fz (HP h), .fz (SP s), .fz (.int d.a), .fz (.int d.b), .fz (.str d.c), .fz (.int p)] ∧ (HsOk h ∧ StOk h s ∧ h.doors.length < 999 ∧ DrOk h.rooms h.tr d ∧ p < d.c.length) ∧ Q (.tup [HP (addD h d), SP (addP s p)]) []
abbrev s_with_room : Sp1 := fun ts Q => ∃ (h : Hs) (s : St) (d : Dr) (p : Nat), ts = [.fz (HP h), .fz (SP s), .fz (.int d.a), .fz (.str d.c), .fz (.int p)] ∧ (HsOk h ∧ StOk h s ∧ h.doors.length < 999 ∧ h.rooms < 999 ∧ d.b = h.rooms ∧ d.a < h.rooms ∧ DrOk (h.rooms + 1) h.tr d ∧ p < d.c.length) ∧ Q (.tup [HP (addR h d), SP (addP s p)]) []
/-- a row of the steps -/
structure RowOk (h : Hs) (r : List Nat) : Prop where
  len : r.length = 12
  r0 : ∀ x, r[0]? = some x → x < 5
  r3 : ∀ x, r[3]? = some x → x < 2
abbrev stepS (P : Hs → Prop) : Sp1 := fun ts Q => ∃ (k : Nat) (h : Hs) (s : St) (r : List Nat), ts = [.fz (stP h s), .fz (.lst (r.map nP))] ∧ (k < 20 ∧ P h ∧ Good k h s ∧ RowOk h r) ∧ ∀ h' s', Good (k + 1) h' s' → Q (stP h' s') []
abbrev s__law_new_hand : Sp1 := stepS fun _ => True
abbrev s__law_new_door : Sp1 := stepS fun h => 1 < h.rooms
abbrev s__law_new_room : Sp1 := stepS fun _ => True
abbrev s__law_safe_deed : Sp1 := stepS fun _ => True
abbrev s__law_step : Sp1 := stepS fun _ => True
abbrev s__law_holds : Sp1 := fun ts Q => ∃ (k : Nat) (h : Hs) (s : St), ts = [.fz (stP h s)] ∧ (k ≤ 20 ∧ Good k h s) ∧ Q (.bl true) []
end Lt
/-! ### what k75 and k79 share -/
namespace Lt
open Lh
def RunP (ds : List (Nat × Nat)) : PV := .obj 2 [(5, .tup (ds.map pP))]
def RO (ds : List (Nat × Nat)) : List (Nat × OF) := [(5, .fz (.tup (ds.map pP)))]
@[simp 5000] theorem frz_RO {ds} : frzO (.obj 2 (RO ds)) = RunP ds := rfl
@[simp] theorem RunP_5 {ds} {Q : PV → Prop} : fldR (RunP ds) 5 Q = Q (.tup (ds.map pP)) := rfl
def okRun (h : Hs) : St → List (Nat × Nat) → Prop
  | _, [] => True
  | s, q :: ds => mayB h s q.1 q.2 = true ∧ okRun h (afterD h s q.1 q.2) ds
def afterR (h : Hs) (s : St) (ds : List (Nat × Nat)) : St := ds.foldl (fun s q => afterD h s q.1 q.2) s
def courseL (h : Hs) : St → List (Nat × Nat) → List St
  | s, [] => [s]
  | s, q :: ds => s :: courseL h (afterD h s q.1 q.2) ds
def sP (s : St) : PV := .tup [.lst (s.hands.map hP), .lst (s.places.map nP)]
def wP (h : Hs) (s : St) : PV := .tup [.int h.rooms, .lst (h.doors.map dP), .lst (s.hands.map hP), .lst (s.places.map nP)]
/-- a cycle over the guild g -/
structure GcOk (g : List Nat) (m : Nat) (c : List Nat) : Prop where
  sub : ∀ x ∈ c, x ∈ g
  sup : ∀ x ∈ g, x ∈ c
  len : c.length ≤ m
abbrev s_Run_init : Sp1 := fun ts Q => ∃ (ds : List (Nat × Nat)) (x : PV), ts = [.obj 2 [], .fz x] ∧ (x = .lst (ds.map pP) ∨ x = .tup (ds.map pP)) ∧ ds.length ≤ 1000 ∧ Q .non [.obj 2 (RO ds)]
abbrev s_replay : Sp1 := fun ts Q => ∃ h s ds, ts = [.fz (HP h), .fz (SP s), .fz (RunP ds)] ∧ (HsOk h ∧ StOk h s ∧ okRun h s ds ∧ ds.length ≤ 1000) ∧ Q (SP (afterR h s ds)) []
abbrev s_course : Sp1 := fun ts Q => ∃ h s ds, ts = [.fz (HP h), .fz (SP s), .fz (RunP ds)] ∧ (HsOk h ∧ StOk h s ∧ okRun h s ds ∧ ds.length ≤ 1000) ∧ Q (.lst ((courseL h s ds).map SP)) []
abbrev s_can_do : Sp1 := s_is_possible
abbrev s__law_far : Sp1 := fun ts Q => ∃ (ns : List Int) (k : Int), ts = [.fz (.ro (ns.map .int)), .fz (.int k)] ∧ (0 ≤ k ∧ k < 1000) ∧ ∀ i : Int, Q (.int i) []
abbrev s__law_possible : Sp1 := fun ts Q => ∃ h s, ts = [.fz (.lst (h.doors.map dP)), .fz (.lst (s.hands.map hP)), .fz (.lst (s.places.map nP))] ∧ (HsOk h ∧ StOk h s) ∧ Q (.lst ((deeds h s).map pP)) []
abbrev s__law_are_deeds : Sp1 := fun ts Q => ∃ ds : List (Nat × Nat), ts = [.fz (.lst (ds.map pP))] ∧ Q (.bl true) []
end Lt
/-! Q1: what the defs of the laws of dead runs are asked to keep -/
namespace Lt
open Lh
def zO (h : Hs) (s : St) : List (Nat × Dr) := (lights h s 0).zip h.doors
/-- the spread of a trade -/
noncomputable def spr (h : Hs) (s : St) (t : Nat) : List Nat := (List.range h.rooms).filter (reachB (zO h s) t (roomsOf s.hands t))
/-- the letter of a side -/
def colL (x : Nat) : Nat := if x = 2 then 66 else 82
/-- the sides of the ends of a door -/
def Compat (sd : List Nat) (d : Dr) : Prop := ∀ x y : Nat, sd[d.a]? = some x → sd[d.b]? = some y → ¬ (x = 0 ∧ y = 2) ∧ ¬ (x = 2 ∧ y = 0)
/-- the letter at a door between a part and a closed room -/
def MarkOk (sd : List Nat) (d : Dr) (p : Nat) : Prop := ∀ x y : Nat, sd[d.a]? = some x → sd[d.b]? = some y → (x = 1 → y ≠ 1 → d.c.getD p 0 ≠ colL y) ∧ (y = 1 → x ≠ 1 → d.c.getD p 0 ≠ colL x)
structure Parts (n : Nat) (l : Nat) (ds : List Dr) (sd : List Nat) : Prop where
  pos : 1 ≤ n
  dr : ∀ d ∈ ds, d.a < n ∧ d.b < n ∧ d.a ≠ d.b ∧ CyOk l d.c
  len : sd.length = n
  two : ∀ x ∈ sd, x ≤ 2
  cp : ∀ d ∈ ds, Compat sd d
abbrev s__need_fits : Sp1 := fun ts Q => ∃ h s, ts = [.fz (HP h), .fz (SP s)] ∧ (HsOk h ∧ StOk h s) ∧ Q .non []
abbrev s__letter_of : Sp1 := fun ts Q => ∃ (h : Hs) (s : St) (j : Nat) (back : Int) (x : Nat), ts = [.fz (HP h), .fz (SP s), .fz (.int j), .fz (.int back)] ∧ (HsOk h ∧ StOk h s ∧ (lights h s back)[j]? = some x) ∧ Q (.str [x]) []
abbrev s_light_of : Sp1 := fun ts Q => ∃ (h : Hs) (s : St) (j : Nat) (x : Nat), ts = [.fz (HP h), .fz (SP s), .fz (.int j)] ∧ (HsOk h ∧ StOk h s ∧ (lights h s 0)[j]? = some x) ∧ Q (.str [x]) []
abbrev s_spread_of : Sp1 := fun ts Q => ∃ (h : Hs) (s : St) (t : Nat), ts = [.fz (HP h), .fz (SP s), .fz (.str [t])] ∧ (HsOk h ∧ StOk h s ∧ h.tr = [82, 66] ∧ (∀ q ∈ s.hands, q.1 ≠ 42) ∧ (t = 82 ∨ t = 66)) ∧ Q (.lst ((spr h s t).map nP)) []
abbrev s__law_ends : Sp1 := fun ts Q => ∃ (k a b n p : Nat), ts = [.fz (.int k), .fz (.int a), .fz (.int b), .fz (.int n), .fz (.lst ((List.replicate a 0 ++ List.replicate (b - a) 2 ++ List.replicate (n - b) 1).map nP)), .fz (.int p)] ∧ (1 ≤ k ∧ 1 ≤ a ∧ a < b ∧ b < n ∧ n < 100 ∧ k < 100) ∧
  ∀ (one : Nat) (os : List Nat), one < n → os ≠ [] → os.length < 100 → (∀ o ∈ os, o < n ∧ o ≠ one ∧ ¬ (one < a ∧ a ≤ o ∧ o < b) ∧ ¬ (o < a ∧ a ≤ one ∧ one < b)) →
    (k < n → one = (if k = a then b else k) ∧ ∀ o ∈ os, (k < a → o < k) ∧ (k = a → a ≤ o ∧ o < b) ∧ (a < k → k < b → a ≤ o ∧ o < k) ∧ (k = b → o < a) ∧ (b < k → o < k)) → Q (.tup [.int one, .lst (os.map nP)]) []
abbrev s__law_two_parts : Sp1 := fun ts Q => ∃ (c : Int) (e l : Nat), ts = [.fz (.int c), .fz (.int e), .fz (.int l)] ∧ (e ≤ 3 ∧ 2 ≤ l ∧ l ≤ 20) ∧
  ∀ (n : Nat) (ds : List Dr) (sd : List Nat), n ≤ 8 → ds.length ≤ n - 1 + e → Parts n l ds sd → Conn n ds → Q (.tup [.int n, .lst (ds.map dP), .lst (sd.map nP)]) []
abbrev s__law_marks : Sp1 := fun ts Q => ∃ (r : List Nat) (a n l : Nat) (ds : List Dr) (sd : List Nat), ts = [.fz (.lst (r.map nP)), .fz (.int a), .fz (.lst (ds.map dP)), .fz (.lst (sd.map nP))] ∧ (Parts n l ds sd ∧ l ≤ 20 ∧ a + ds.length ≤ r.length ∧ 0 < r.length ∧ ds.length < 100) ∧
  ∀ ps : List Nat, ps.length = ds.length → (∀ (k p : Nat) (d : Dr), ps[k]? = some p → ds[k]? = some d → p < d.c.length ∧ MarkOk sd d p) → Q (.lst (ps.map nP)) []
abbrev s__law_placed : Sp1 := fun ts Q => ∃ (c : Int) (n l lo hi : Nat) (ds : List Dr) (sd : List Nat), ts = [.fz (.int c), .fz (.int n), .fz (.lst (ds.map dP)), .fz (.lst (sd.map nP)), .fz (.int lo), .fz (.int hi)] ∧ (Parts n l ds sd ∧ l ≤ 20 ∧ lo ≤ hi ∧ hi ≤ 20 ∧ ds.length < 100 ∧ n < 100) ∧
  ∀ (hs : List (Nat × Nat)) (ps : List Nat), hs.length ≤ hi → (∀ q ∈ hs, ∃ x, sd[q.2]? = some x ∧ x ≠ 1 ∧ q.1 = colL x) → ps.length = ds.length → (∀ (k p : Nat) (d : Dr), ps[k]? = some p → ds[k]? = some d → p < d.c.length ∧ MarkOk sd d p) → Q (.tup [.lst (hs.map hP), .lst (ps.map nP)]) []
/-- a dead standing of a house of two trades -/
structure Dead (h : Hs) (s : St) : Prop where
  hs : HsOk h
  tr : h.tr = [82, 66]
  st : StOk h s
  nm : ∀ q ∈ s.hands, q.1 ≠ 42
  dead : shared h s 0 = []
abbrev s__law_scene : Sp1 := fun ts Q => ∃ (ns : List Int) (fr : Bool) (m e l : Nat), ts = [.fz (.ro (ns.map .int)), .fz (.bl fr), .fz (.tup [.int m, .int e, .int l])] ∧ (1 ≤ m ∧ m ≤ 10 ∧ e ≤ 3 ∧ 2 ≤ l ∧ l ≤ 20) ∧
  ∀ h s, Dead h s → h.rooms ≤ 10 → h.doors.length ≤ 20 → s.hands.length ≤ 6 → Q (.tup [.int h.rooms, .lst (h.doors.map dP), .lst (s.hands.map hP), .lst (s.places.map nP)]) []
abbrev s__law_is_house : Sp1 := fun ts Q => ∃ h : Hs, ts = [.fz (HP h), .fz (.int (h.rooms : Nat)), .fz (.lst (h.doors.map dP))] ∧ (h.tr = [82, 66] ∧ HsOk h) ∧ Q (.bl true) []
abbrev s__law_reached : Sp1 := fun ts Q => ∃ (h : Hs) (s : St) (t : Nat), ts = [.fz (.int (h.rooms : Nat)), .fz (.lst (h.doors.map dP)), .fz (.lst (s.hands.map hP)), .fz (.lst (s.places.map nP)), .fz (.str [t])] ∧ (HsOk h ∧ StOk h s) ∧ Q (.lst ((spr h s t).map nP)) []
abbrev s__law_moment : Sp1 := fun ts Q => ∃ (h : Hs) (s : St), ts = [.fz (HP h), .fz (SP s), .fz (.int (h.rooms : Nat)), .fz (.lst (h.doors.map dP)), .fz (.lst (s.hands.map hP)), .fz (.lst (s.places.map nP))] ∧ Dead h s ∧ Q (.lst [.lst ((spr h s 82).map nP), .lst ((spr h s 66).map nP)]) []
abbrev s__law_lit : Sp1 := fun ts Q => ∃ (h : Hs) (s : St), ts = [.fz (HP h), .fz (SP s), .fz (.lst (h.doors.map dP)), .fz (.lst (s.places.map nP))] ∧ (HsOk h ∧ StOk h s) ∧ Q (.bl true) []
abbrev s__law_fewer : Sp1 := fun ts Q => ∃ (r b r' b' : List Nat) (m : Nat), ts = [.fz (.lst [.lst (r.map nP), .lst (b.map nP)]), .fz (.lst [.lst (r'.map nP), .lst (b'.map nP)]), .fz (.int m)] ∧ ((r.length ≤ 1000 ∧ b.length ≤ 1000 ∧ r'.length ≤ 1000 ∧ b'.length ≤ 1000) ∧ ((m = 0 ∧ b' = b ∧ ∀ x ∈ r', x ∈ r) ∨ (m = 1 ∧ r' = r ∧ ∀ x ∈ b', x ∈ b))) ∧ Q (.bl true) []
abbrev s_law : Sp1 := fun ts Q => ∃ ns : List Int, ts = [.fz (.ro (ns.map .int))] ∧ Q (.bl true) []
end Lt
namespace Lt
open Lh
def spL : List Sp1 := [s_is_index, s__are_trades, s__is_connected, s_Standing_init, s__is_trade, s_lights_at, s_need_trade, s_need_no_masters, s_Run_init, s__step, s_rooms_of, s_walk_from, s__law_cell, s__law_row, s__law_odd_cycle, s__law_any_cycle, s__law_is_integer, s__law_deed, s__law_lights, s__law_spread, s__law_ends, s__law_marks, s__law_fewer, s__is_door, s_fits, s_need_doors, s_need_hands, s_need_two_trades, s__may_pass, s_after_deed, s_spread_over, s__law_house, s__law_integers, s__law_is_standing, s__law_possible, s__law_far, s__law_two_parts, s__law_placed, s__law_are_deeds, s__law_is_house, s__law_reached, s_House_init, s__need_fits, s_need_fits, s_is_possible, s_shared_rooms, s__law_scene, s__letter_of, s_do, s_possible_deeds, s_replay, s_spread_of, s_meeting_rooms, s_light_of, s_is_live, s__law_moment, s__law_lit, s_law]
def sp : SpT := fun j ts Q => match spL[j]? with
  | some s => s ts Q
  | none => False
theorem sp_is_index : sp j_is_index = s_is_index := rfl
theorem sp__are_trades : sp j__are_trades = s__are_trades := rfl
theorem sp__is_connected : sp j__is_connected = s__is_connected := rfl
theorem sp_Standing_init : sp j_Standing_init = s_Standing_init := rfl
theorem sp__is_trade : sp j__is_trade = s__is_trade := rfl
theorem sp_lights_at : sp j_lights_at = s_lights_at := rfl
theorem sp_need_trade : sp j_need_trade = s_need_trade := rfl
theorem sp_need_no_masters : sp j_need_no_masters = s_need_no_masters := rfl
theorem sp_Run_init : sp j_Run_init = s_Run_init := rfl
theorem sp__step : sp j__step = s__step := rfl
theorem sp_rooms_of : sp j_rooms_of = s_rooms_of := rfl
theorem sp_walk_from : sp j_walk_from = s_walk_from := rfl
theorem sp__law_cell : sp j__law_cell = s__law_cell := rfl
theorem sp__law_row : sp j__law_row = s__law_row := rfl
theorem sp__law_odd_cycle : sp j__law_odd_cycle = s__law_odd_cycle := rfl
theorem sp__law_any_cycle : sp j__law_any_cycle = s__law_any_cycle := rfl
theorem sp__law_is_integer : sp j__law_is_integer = s__law_is_integer := rfl
theorem sp__law_deed : sp j__law_deed = s__law_deed := rfl
theorem sp__law_lights : sp j__law_lights = s__law_lights := rfl
theorem sp__law_spread : sp j__law_spread = s__law_spread := rfl
theorem sp__law_ends : sp j__law_ends = s__law_ends := rfl
theorem sp__law_marks : sp j__law_marks = s__law_marks := rfl
theorem sp__law_fewer : sp j__law_fewer = s__law_fewer := rfl
theorem sp__is_door : sp j__is_door = s__is_door := rfl
theorem sp_fits : sp j_fits = s_fits := rfl
theorem sp_need_doors : sp j_need_doors = s_need_doors := rfl
theorem sp_need_hands : sp j_need_hands = s_need_hands := rfl
theorem sp_need_two_trades : sp j_need_two_trades = s_need_two_trades := rfl
theorem sp__may_pass : sp j__may_pass = s__may_pass := rfl
theorem sp_after_deed : sp j_after_deed = s_after_deed := rfl
theorem sp_spread_over : sp j_spread_over = s_spread_over := rfl
theorem sp__law_house : sp j__law_house = s__law_house := rfl
theorem sp__law_integers : sp j__law_integers = s__law_integers := rfl
theorem sp__law_is_standing : sp j__law_is_standing = s__law_is_standing := rfl
theorem sp__law_possible : sp j__law_possible = s__law_possible := rfl
theorem sp__law_far : sp j__law_far = s__law_far := rfl
theorem sp__law_two_parts : sp j__law_two_parts = s__law_two_parts := rfl
theorem sp__law_placed : sp j__law_placed = s__law_placed := rfl
theorem sp__law_are_deeds : sp j__law_are_deeds = s__law_are_deeds := rfl
theorem sp__law_is_house : sp j__law_is_house = s__law_is_house := rfl
theorem sp__law_reached : sp j__law_reached = s__law_reached := rfl
theorem sp_House_init : sp j_House_init = s_House_init := rfl
theorem sp__need_fits : sp j__need_fits = s__need_fits := rfl
theorem sp_need_fits : sp j_need_fits = s_need_fits := rfl
theorem sp_is_possible : sp j_is_possible = s_is_possible := rfl
theorem sp_shared_rooms : sp j_shared_rooms = s_shared_rooms := rfl
theorem sp__law_scene : sp j__law_scene = s__law_scene := rfl
theorem sp__letter_of : sp j__letter_of = s__letter_of := rfl
theorem sp_do : sp j_do = s_do := rfl
theorem sp_possible_deeds : sp j_possible_deeds = s_possible_deeds := rfl
theorem sp_replay : sp j_replay = s_replay := rfl
theorem sp_spread_of : sp j_spread_of = s_spread_of := rfl
theorem sp_meeting_rooms : sp j_meeting_rooms = s_meeting_rooms := rfl
theorem sp_light_of : sp j_light_of = s_light_of := rfl
theorem sp_is_live : sp j_is_live = s_is_live := rfl
theorem sp__law_moment : sp j__law_moment = s__law_moment := rfl
theorem sp__law_lit : sp j__law_lit = s__law_lit := rfl
theorem sp_law : sp j_law = s_law := rfl
theorem sp_cg {j ts Q} : sp j ts Q = sp j ts Q := rfl
end Lt
/-! P3: lemmas for the defs -/
namespace Lt
open Lh
theorem zw_eq {α β γ : Type} (f : α → β → γ) (xs : List α) (ys : List β) : List.zipWith f xs ys = (xs.zip ys).map fun q => f q.1 q.2 := by
  rw [← List.map_uncurry_zip_eq_zipWith]; rfl
theorem set_rm {α : Type} (f : Nat → α) (n r : Nat) (v : α) : ((List.range n).map f).set r v = (List.range n).map fun i => if i = r then v else f i := by
  refine List.ext_getElem (by simp) fun i h1 h2 => ?_
  rw [List.getElem_set]
  simp only [List.getElem_map, List.getElem_range]
  by_cases h : r = i
  · simp [h]
  · rw [if_neg h, if_neg (fun e => h e.symm)]
theorem get_rm {α : Type} (f : Nat → α) (n r : Nat) (h : r < n) : ((List.range n).map f)[r]? = some (f r) := by
  simp [h]
section
variable {Q : PV → Prop} {c : List Nat} {x : Int} {l : List PV}
@[simp 5000] theorem ixs_mod (h0 : 0 < c.length) (h1 : c.length ≤ 16777216) : ixR (.str c) (.int (x % (c.length : Int))) Q = Q (.str [c.getD (x % (c.length : Int)).toNat 0]) := by
  have g1 := Int.emod_nonneg x (b := (c.length : Int)) (by omega)
  have g2 := Int.emod_lt_of_pos x (b := (c.length : Int)) (by omega)
  have h2 : (x % (c.length : Int)).toNat < c.length := by omega
  have h3 : x % (c.length : Int) = ((x % (c.length : Int)).toNat : Int) := by omega
  have h4 : c[(x % (c.length : Int)).toNat]? = some (c.getD (x % (c.length : Int)).toNat 0) := by
    rw [List.getD_eq_getElem?_getD, List.getElem?_eq_getElem h2]; rfl
  generalize hk : (x % (c.length : Int)).toNat = k at h2 h3 h4
  rw [h3, ix_s]
  refine propext ⟨fun ⟨k', p', hk, _, hp, q⟩ => ?_, fun q => ⟨k, _, by simp [h2], h1, h4, q⟩⟩
  rw [pyIx_nat_some] at hk
  rw [hk.2, h4] at hp
  cases hp; exact q
theorem ixs_nat {k y : Nat} (h : c[k]? = some y) (h1 : c.length ≤ 16777216) : ixR (.str c) (.int (k : Int)) Q = Q (.str [y]) := by
  have h2 : k < c.length := (List.getElem?_eq_some_iff.mp h).1
  rw [ix_s]
  refine propext ⟨fun ⟨k', p', hk, _, hp, q⟩ => ?_, fun q => ⟨k, _, by simp [h2], h1, h, q⟩⟩
  rw [pyIx_nat_some] at hk
  rw [hk.2, h] at hp
  cases hp; exact q
@[simp 5000] theorem ix_RB : ixR (.str [82, 66]) (.int (x % 2)) Q = Q (.str [if x % 2 = 0 then 82 else 66]) := by
  have : x % 2 = 0 ∨ x % 2 = 1 := by omega
  rcases this with h | h
  · rw [h]; exact ixs_nat (k := 0) (y := 82) rfl (by decide)
  · rw [h]; exact ixs_nat (k := 1) (y := 66) rfl (by decide)
theorem ixl_lt {k : Nat} {α : Type} {f : α → PV} {xs : List α} {a : α} (h : xs[k]? = some a) : ixR (.lst (xs.map f)) (.int (k : Int)) Q = Q (f a) := ixl_nat (by simp [h])
theorem ixt_lt {k : Nat} {α : Type} {f : α → PV} {xs : List α} {a : α} (h : xs[k]? = some a) : ixR (.tup (xs.map f)) (.int (k : Int)) Q = Q (f a) := ixt_nat (by simp [h])
end
theorem inTwo {t x y : Nat} {Q : PV → Prop} : cmpR .inn (.str [t]) (.tup [.str [x], .str [y]]) Q = Q (.bl (decide (t = x ∨ t = y))) := by
  rw [cmp_inl (l := [.str [x], .str [y]]) rfl (by simp [flatP])]
  have : ([PV.str [x], PV.str [y]].any fun z => eqPV z (.str [t])) = decide (t = x ∨ t = y) := by
    simp only [List.any_cons, List.any_nil, eqPV, Bool.or_false]
    rw [Bool.eq_iff_iff]
    simp only [Bool.or_eq_true, decide_eq_true_eq]
    first
    | exact ⟨fun h => h.elim (fun h => .inl h.symm) fun h => .inr h.symm, fun h => h.elim (fun h => .inl h.symm) fun h => .inr h.symm⟩
    | (simp only [List.cons.injEq, and_true]; exact ⟨fun h => h.elim (fun h => .inl h.symm) fun h => .inr h.symm, fun h => h.elim (fun h => .inl h.symm) fun h => .inr h.symm⟩)
  rw [this]
theorem inTwoI {t x y : Int} {Q : PV → Prop} : cmpR .inn (.int t) (.tup [.int x, .int y]) Q = Q (.bl (decide (t = x ∨ t = y))) := by
  rw [cmp_inl (l := [.int x, .int y]) rfl (by simp [flatP])]
  have : ([PV.int x, PV.int y].any fun z => eqPV z (.int t)) = decide (t = x ∨ t = y) := by
    simp only [List.any_cons, List.any_nil, eqPV, Bool.or_false]
    rw [Bool.eq_iff_iff]
    simp only [Bool.or_eq_true, decide_eq_true_eq]
    first
    | exact ⟨fun h => h.elim (fun h => .inl h.symm) fun h => .inr h.symm, fun h => h.elim (fun h => .inl h.symm) fun h => .inr h.symm⟩
    | (simp only [List.cons.injEq, and_true]; exact ⟨fun h => h.elim (fun h => .inl h.symm) fun h => .inr h.symm, fun h => h.elim (fun h => .inl h.symm) fun h => .inr h.symm⟩)
  rw [this]
theorem inNats {t : Nat} {rs : List Nat} {Q : PV → Prop} : cmpR .inn (.int (t : Int)) (.lst (rs.map nP)) Q = Q (.bl (decide (t ∈ rs))) := by
  rw [cmp_inl (l := rs.map nP) rfl (by simp [flatP])]
  have : ((rs.map nP).any fun z => eqPV z (.int (t : Int))) = decide (t ∈ rs) := by
    rw [Bool.eq_iff_iff]
    simp only [List.any_map, List.any_eq_true, Function.comp, decide_eq_true_eq]
    constructor
    · rintro ⟨x, hx, h⟩
      have : x = t := by
        have h' : (x : Int) = t := by simpa [eqPV] using h
        exact Int.ofNat.inj h'
      rwa [this] at hx
    · intro h; exact ⟨t, h, by simp [eqPV]⟩
  rw [this]
theorem blsOf_map {α : Type} (f : α → Bool) : ∀ xs : List α, blsOf (xs.map fun a => PV.bl (f a)) = some (xs.map f)
  | [] => rfl
  | a :: xs => by simp [blsOf, blsOf_map f xs]
theorem intsOf_nP : ∀ xs : List Nat, intsOf (xs.map nP) = some (xs.map fun (n : Nat) => (n : Int))
  | [] => rfl
  | a :: xs => by simp [intsOf, intsOf_nP xs]
theorem count_cast (i : Nat) : ∀ xs : List Nat, (xs.map fun (n : Nat) => (n : Int)).count (i : Int) = xs.count i
  | [] => rfl
  | a :: xs => by
    rw [List.map_cons, List.count_cons, List.count_cons, count_cast i xs]
    by_cases h : a = i
    · simp [h]
    · have : ¬ (a : Int) = i := fun e => h (Int.ofNat.inj e)
      simp [h, this]
theorem lenIs {α β : Type} {xs : List α} {ys : List β} (h : xs.length = ys.length) {k : Nat} {a : α} (e : xs[k]? = some a) : ∃ b, ys[k]? = some b := by
  have h1 := (List.getElem?_eq_some_iff.mp e).1
  exact ⟨ys[k]'(by omega), List.getElem?_eq_getElem _⟩
theorem get_ex {α : Type} {xs : List α} {k : Nat} (h : k < xs.length) : ∃ a, xs[k]? = some a := ⟨xs[k], List.getElem?_eq_getElem h⟩
theorem lt_of_get {α : Type} {xs : List α} {k : Nat} {a : α} (e : xs[k]? = some a) : k < xs.length := (List.getElem?_eq_some_iff.mp e).1
theorem mem_of_get {α : Type} {xs : List α} {k : Nat} {a : α} (e : xs[k]? = some a) : a ∈ xs := List.mem_of_getElem? e
theorem zip_get {α β : Type} {xs : List α} {ys : List β} {k : Nat} {q : α × β} (e : (xs.zip ys)[k]? = some q) : xs[k]? = some q.1 ∧ ys[k]? = some q.2 := by
  rw [List.getElem?_zip_eq_some] at e; exact e
theorem zip_mem {α β : Type} {xs : List α} {ys : List β} {q : α × β} (e : q ∈ xs.zip ys) : ∃ k : Nat, xs[k]? = some q.1 ∧ ys[k]? = some q.2 := by
  obtain ⟨k, h⟩ := List.getElem?_of_mem e
  exact ⟨k, zip_get h⟩
end Lt
/-! P5: the defs that call no other, second part -/
namespace Lt
open Lh
theorem ev_Standing_init : ∀ ts R, s_Standing_init ts R → evD sp [.io, .bo, .bo] 4 b_Standing_init ts R := by
  rintro ts R ⟨s, x, y, rfl, ⟨h1, h2⟩, hx, hy, hr⟩
  refine evD_of sp rfl rfl ?_
  have main : evSs sp b_Standing_init [.io (.obj 1 []), .bo (.fz (.lst (s.hands.map hP))), .bo (.fz y), .u] (finK [.io, .bo, .bo] R) ∧ evSs sp b_Standing_init [.io (.obj 1 []), .bo (.fz (.tup (s.hands.map hP))), .bo (.fz y), .u] (finK [.io, .bo, .bo] R) := by
    constructor
    all_goals
      simp [b_Standing_init]
      refine comp_map sp s.hands hP hP (by omega) ?_ ?_
      · intro q hq k hk
        simp
        exact hk
      · rcases hy with rfl | rfl <;> (simp; exact hr)
  rcases hx with rfl | rfl
  · exact main.1
  · exact main.2
theorem ev__are_trades : ∀ ts R, s__are_trades ts R → evD sp [.va] 2 b__are_trades ts R := by
  rintro ts R ⟨t, rfl, T, hr⟩
  refine evD_of sp rfl rfl ?_
  have m := T.most
  have d2 : t.length ≤ 16777216 := by omega
  have d3 : ¬ t.length < 2 := by have := T.two; omega
  have d4 : ¬ (t.length : Int) < 2 := by have := T.two; omega
  simp [b__are_trades, d2, d3, d4, m, T.nd]
  refine comp_map sp t _ (fun _ => .bl true) (by omega) ?_ ?_
  · intro c hc k hk
    have h := T.cap c hc
    have h' : c = 65 ∨ c = 66 ∨ c = 67 ∨ c = 68 ∨ c = 69 ∨ c = 70 ∨ c = 71 ∨ c = 72 ∨ c = 73 ∨ c = 74 ∨ c = 75 ∨ c = 76 ∨ c = 77 ∨ c = 78 ∨ c = 79 ∨ c = 80 ∨ c = 81 ∨ c = 82 ∨ c = 83 ∨ c = 84 ∨ c = 85 ∨ c = 86 ∨ c = 87 ∨ c = 88 ∨ c = 89 ∨ c = 90 := by omega
    have h'' : c ∈ [65, 66, 67, 68, 69, 70, 71, 72, 73, 74, 75, 76, 77, 78, 79, 80, 81, 82, 83, 84, 85, 86, 87, 88, 89, 90] := by simpa using h'
    simp [h']
    exact hk
  · have := blsOf_map (fun _ => true) t
    have h2 : (t.all fun _ => true) = true := by simp
    simp [this]
    rw [h2]
    exact hr
theorem setH {hs : List (Nat × Nat)} {i t a b r : Nat} (ho : r = a ∨ r = b) : (hs.map hP).set i (.tup [.str [t], .int ((a : Int) + b - r)]) = (hs.set i (t, a + b - r)).map hP := by
  rw [List.map_set]
  have : (a : Int) + b - r = ((a + b - r : Nat) : Int) := by omega
  rw [this]; rfl
theorem setPl {ps : List Nat} {j p n : Nat} : (ps.map nP).set j (.int (((p : Int) + 1) % (n : Int))) = (ps.set j ((p + 1) % n)).map nP := by
  rw [List.map_set]; rfl
theorem ev__step : ∀ ts R, s__step ts R → evD sp [.va, .io, .io, .va, .va] 10 b__step ts R := by
  rintro ts R ⟨h, hs, ps, i, j, q, d, p, rfl, ⟨hq, hd, hp, ho, hc, hc'⟩, hr⟩
  refine evD_of sp rfl rfl ?_
  have hj := lt_of_get hp
  have hi := lt_of_get hq
  have hc2 : d.c.length ≤ 16777216 := by omega
  simp [b__step, ixl_lt hq, ixt_lt hd, ixl_lt hp, hj, hi, hc, hc2, -ix_l, -ix_t]
  rw [setH ho, setPl]
  exact hr
theorem ev__law_deed : ∀ ts R, s__law_deed ts R → evD sp [.va, .va, .va, .va, .va] 9 b__law_deed ts R := by
  rintro ts R ⟨h, s, i, j, rfl, ⟨H, S, hi, hj'⟩, hr⟩
  refine evD_of sp rfl rfl ?_
  obtain ⟨q, hq⟩ := get_ex hi
  obtain ⟨d, hd⟩ := get_ex hj'
  obtain ⟨p, hp⟩ := lenIs S.len.symm hd
  rw [mayB, afterD, hq, hd, hp] at hr
  simp only at hr
  have hj := lt_of_get hp
  have D := H.dr d (mem_of_get hd)
  have hc := D.pos H.tr
  have hc2 : d.c.length ≤ 16777216 := by have := D.len; omega
  have hpl := S.pl j p d hp hd
  obtain ⟨x, hx⟩ := get_ex hpl
  have e0 : lightOf 0 d p = x := by
    rw [lightOf]
    have : ((p : Int) - 0) % (d.c.length : Int) = (p : Int) := by rw [Int.sub_zero]; exact Int.emod_eq_of_lt (by omega) (by omega)
    rw [this, Int.toNat_natCast, List.getD_eq_getElem?_getD, hx]; rfl
  rw [e0] at hr
  have n1 : ¬ ((i : Int) < 0) := by omega
  have n2 : ¬ ((s.hands.length : Int) ≤ (i : Int)) := by omega
  have n3 : ¬ ((j : Int) < 0) := by omega
  have n4 : ¬ ((h.doors.length : Int) ≤ (j : Int)) := by omega
  have n5 : ¬ s.hands.length ≤ i := by omega
  have n6 : ¬ h.doors.length ≤ j := by omega
  simp [b__law_deed, n1, n2, n3, n4, n5, n6, ixl_lt hq, ixl_lt hd, ixl_lt hp, ixs_nat hx, hj, hi, hc, hc2, -ix_l, -ix_t, -List.map_set]
  by_cases c1 : q.2 = d.a
  · have o : q.2 = d.a ∨ q.2 = d.b := .inl c1
    rw [if_pos (show ((q.2 : Int) = d.a) by rw [c1]), setH o, setPl]
    by_cases c2 : q.1 = 42
    · rw [if_pos c2]; simpa [c1, c2] using hr
    · rw [if_neg c2]
      by_cases c3 : q.1 = x
      · rw [if_pos c3]; simpa [c1, c3] using hr
      · rw [if_neg c3]; simpa [c1, c2, c3] using hr
  · rw [if_neg (show ¬ ((q.2 : Int) = d.a) by omega)]
    by_cases c1' : q.2 = d.b
    · have o : q.2 = d.a ∨ q.2 = d.b := .inr c1'
      rw [if_pos (show ((q.2 : Int) = d.b) by rw [c1']), setH o, setPl]
      by_cases c2 : q.1 = 42
      · rw [if_pos c2]; simpa [c1', c2] using hr
      · rw [if_neg c2]
        by_cases c3 : q.1 = x
        · rw [if_pos c3]; simpa [c1', c3] using hr
        · rw [if_neg c3]; simpa [c1', c2, c3] using hr
    · rw [if_neg (show ¬ ((q.2 : Int) = d.b) by omega)]
      simpa [c1, c1'] using hr
theorem ixl_i {α : Type} {f : α → PV} {xs : List α} {k : Nat} {a : α} {i : Int} (h : xs[k]? = some a) (e : i = (k : Int)) (Q : PV → Prop) : ixR (.lst (xs.map f)) (.int i) Q = Q (f a) := by
  subst e; exact ixl_lt h
theorem mulOk_l {i j : Int} (h1 : -100000 < i) (h2 : i < 100000) : MulOk i j := .inl ⟨by omega, by omega⟩
theorem mulOk_r {i j : Int} (h1 : -100000 < j) (h2 : j < 100000) : MulOk i j := .inr ⟨by omega, by omega⟩
theorem mulOk_b {i j : Int} (h1 : 0 ≤ i) (h2 : i < 2147483647) : MulOk i j := .inl ⟨by omega, by omega⟩
/-- letters R and B -/
theorem ev__law_any_cycle : ∀ ts R, s__law_any_cycle ts R → evD sp [.va, .va, .va] 6 b__law_any_cycle ts R := by
  rintro ts R ⟨r, at_, m, rfl, ⟨h2, hm, hl⟩, hr⟩
  refine evD_of sp rfl rfl ?_
  obtain ⟨x0, hx0⟩ := get_ex (xs := r) (k := at_) (by omega)
  obtain ⟨xl, hxl⟩ := get_ex (xs := r) (k := at_ + m) (by omega)
  have hpos : (0 : Int) < (m : Int) - 1 := by omega
  have g1 := Int.emod_nonneg (x0 : Int) (b := (m : Int) - 1) (by omega)
  have g2 := Int.emod_lt_of_pos (x0 : Int) (b := (m : Int) - 1) (by omega)
  obtain ⟨n, hn⟩ : ∃ n : Nat, 2 + (x0 : Int) % ((m : Int) - 1) - 1 = (n : Int) := ⟨(2 + (x0 : Int) % ((m : Int) - 1) - 1).toNat, by omega⟩
  have hnm : n + 1 ≤ m := by omega
  have hn1 : 1 ≤ n := by omega
  have hR : R62 (n : Int) := ⟨by omega, by omega⟩
  simp [b__law_any_cycle, ixl_lt hx0, hn, hR, rangeL_0, -ix_l]
  refine ⟨by omega, ?_⟩
  refine for_range sp n (fun k e => ∃ (c : List Nat) (x : Slot), e = [.fz (.lst (r.map nP)), .fz (.int at_), .fz (.int m), .fz (.int (2 + (x0 : Int) % ((m : Int) - 1))), .fz (.str c), x] ∧ c.length = k ∧ ∀ x ∈ c, x = 82 ∨ x = 66) ⟨[], _, rfl, rfl, by simp⟩ ?_ ?_
  · rintro k e J hk ⟨c, x, rfl, hc, hcc⟩ hJ
    obtain ⟨x1, hx1⟩ := get_ex (xs := r) (k := at_ + 1 + k) (by omega)
    have e1 := ixl_i (f := nP) hx1 (show (at_ : Int) + 1 + k = ((at_ + 1 + k : Nat) : Int) by omega)
    have hcl : c.length ≤ 16777215 := by omega
    simp [e1, hcl, -ix_l]
    refine hJ _ ⟨_, _, rfl, by simp [hc], ?_⟩
    intro y hy
    rcases List.mem_append.mp hy with h | h
    · exact hcc y h
    · have h := List.mem_singleton.mp h
      rw [h]
      split <;> simp
  · rintro e ⟨c, x, rfl, hc, hcc⟩
    have hcl : c.length ≤ 16777215 := by omega
    have e1 := ixl_i (f := nP) hxl (show (at_ : Int) + m = ((at_ + m : Nat) : Int) by omega)
    simp [hcl, e1, -ix_l]
    have hle : c.length + 1 ≤ m := by omega
    split
    · rename_i h0
      rw [List.count_eq_zero] at h0
      refine hr _ ⟨by simp, ?_, ?_, by simpa using hle⟩
      · cases c with
        | nil => simp at hc; omega
        | cons y l =>
          rcases hcc y (by simp) with h | h
          · rw [h] at h0; simp at h0
          · rw [h]; simp
      · intro y hy
        rcases List.mem_append.mp hy with h | h
        · exact hcc y h
        · simp at h; exact .inl h
    · rename_i h0
      rw [List.count_eq_zero, Classical.not_not] at h0
      split
      · rename_i h1
        refine hr _ ⟨by simp [h0], by simp, ?_, by simpa using hle⟩
        intro y hy
        rcases List.mem_append.mp hy with h | h
        · exact hcc y h
        · simp at h; exact .inr h
      · rename_i h1
        rw [List.count_eq_zero, Classical.not_not] at h1
        refine hr _ ⟨by simp [h0], by simp [h1], ?_, by simpa using hle⟩
        intro y hy
        rcases List.mem_append.mp hy with h | h
        · exact hcc y h
        · have h := List.mem_singleton.mp h
          rw [h]
          split <;> simp
end Lt
/-! P6: what is reached over lit doors -/
namespace Lt
open Lh
def falses (f : Nat → Bool) (n : Nat) : Nat := ((List.range n).filter fun i => !f i).length
theorem falses_succ (f : Nat → Bool) (n : Nat) : falses f (n + 1) = falses f n + if f n = true then 0 else 1 := by
  simp only [falses, List.range_succ, List.filter_append, List.length_append, List.filter_cons, List.filter_nil]
  cases f n <;> simp
theorem falses_le {f g : Nat → Bool} (h : ∀ i, f i = true → g i = true) : ∀ n, falses g n ≤ falses f n
  | 0 => by simp [falses]
  | n + 1 => by
    have := falses_le h n
    rw [falses_succ, falses_succ]
    cases h1 : f n with
    | true => simp [h n h1]; omega
    | false => cases g n <;> simp <;> omega
theorem falses_lt {f g : Nat → Bool} (h : ∀ i, f i = true → g i = true) {j : Nat} (h1 : f j = false) (h2 : g j = true) : ∀ n, j < n → falses g n < falses f n
  | 0, hj => by omega
  | n + 1, hj => by
    rw [falses_succ, falses_succ]
    by_cases e : j = n
    · subst e
      have := falses_le h j
      simp [h1, h2]; omega
    · have := falses_lt h h1 h2 n (by omega)
      cases h3 : f n with
      | true => simp [h n h3]; omega
      | false => cases g n <;> simp <;> omega
theorem falses_n (f : Nat → Bool) : ∀ n, falses f n ≤ n
  | 0 => by simp [falses]
  | n + 1 => by
    have := falses_n f n
    rw [falses_succ]; split <;> omega
theorem falses_0 {f : Nat → Bool} : ∀ {n}, falses f n = 0 → ∀ i, i < n → f i = true
  | 0, _, i, hi => by omega
  | n + 1, h, i, hi => by
    rw [falses_succ] at h
    by_cases e : i = n
    · subst e
      cases h1 : f i with
      | true => rfl
      | false => rw [h1] at h; simp at h
    · exact falses_0 (n := n) (by omega) i (by omega)
theorem Adj.symm {z t x y} (h : Adj z t x y) : Adj z t y x := by
  obtain ⟨q, hq, e, h⟩ := h
  exact ⟨q, hq, e, h.elim (fun h => .inr h) fun h => .inl h⟩
theorem reach_in {z t rs i} (h : i ∈ rs) : reach z t rs i := ⟨i, h, 0, .nil⟩
theorem reach_adj {z t rs x y} (h : Adj z t x y) (hy : reach z t rs y) : reach z t rs x := by
  obtain ⟨r, hr, k, p⟩ := hy
  exact ⟨r, hr, k + 1, .cons h p⟩
def closed (z : List (Nat × Dr)) (t : Nat) (f : Nat → Bool) : Prop := ∀ q ∈ z, q.1 = t → f q.2.a = f q.2.b
theorem closed_all {z t rs} {f : Nat → Bool} (hc : closed z t f) (hr : ∀ i ∈ rs, f i = true) {i : Nat} (h : reach z t rs i) : f i = true := by
  obtain ⟨r, hr', k, p⟩ := h
  have := hr r hr'
  clear hr' hr
  induction p with
  | nil => exact this
  | cons h p ih =>
    have := ih this
    obtain ⟨q, hq, e, h⟩ := h
    have c := hc q hq e
    rcases h with ⟨h1, h2⟩ | ⟨h1, h2⟩
    · rw [h1, h2] at c; rw [c]; exact this
    · rw [h1, h2] at c; rw [← c]; exact this
theorem closed_B {z t rs} {f : Nat → Bool} (hc : closed z t f) (hr : ∀ i ∈ rs, f i = true) (hs : ∀ i, f i = true → reach z t rs i) : f = reachB z t rs := by
  funext i
  rw [Bool.eq_iff_iff, reachB_t]
  exact ⟨hs i, fun h => closed_all hc hr h⟩
theorem set_bl (f : Nat → Bool) (n r : Nat) (v : Bool) : ((List.range n).map fun i => PV.bl (f i)).set r (.bl v) = (List.range n).map fun i => PV.bl (if i = r then v else f i) := by
  rw [set_rm]
  congr 1
  funext i
  split <;> rfl
theorem set_it (f : Nat → Int) (n r : Nat) (v : Int) : ((List.range n).map fun i => PV.int (f i)).set r (.int v) = (List.range n).map fun i => PV.int (if i = r then v else f i) := by
  rw [set_rm]
  congr 1
  funext i
  split <;> rfl
theorem ixl_rm {g : Nat → PV} {n i : Nat} {Q : PV → Prop} (h : i < n) : ixR (.lst ((List.range n).map g)) (.int (i : Int)) Q = Q (g i) := ixl_nat (get_rm g n i h)
theorem rep_rm (n : Nat) (p : PV) : List.replicate n p = (List.range n).map fun _ => p := by
  refine List.ext_getElem (by simp) fun i h1 h2 => ?_
  simp
theorem take_snoc {α : Type} {xs : List α} {k : Nat} {a : α} (h : xs[k]? = some a) : xs.take (k + 1) = xs.take k ++ [a] := by
  rw [List.take_add_one, h]; rfl
theorem ev_walk_from : ∀ ts R, s_walk_from ts R → evD sp [.va, .va, .va, .va] 11 b_walk_from ts R := by
  rintro ts R ⟨h, rs, ls, t, rfl, H, hr⟩
  refine evD_of sp rfl rfl ?_
  have m := H.most
  have m2 := H.many
  have hR : R62 (h.rooms : Int) := ⟨by omega, by omega⟩
  simp [b_walk_from, hR, rangeL_0]
  generalize hz : ls.zip h.doors = z at hr
  have zd : ∀ q ∈ z, q.2.a < h.rooms ∧ q.2.b < h.rooms := by
    intro q hq
    rw [← hz] at hq
    obtain ⟨k, _, h2⟩ := zip_mem hq
    have D := H.dr _ (mem_of_get h2)
    exact ⟨D.a, D.b⟩
  refine comp_map sp (List.range h.rooms) _ (fun i => .bl (decide (i ∈ rs))) (by simp; omega) ?_ ?_
  · intro i hi k hk
    simp [inNats]
    exact hk
  simp
  let mk := fun (f : Nat → Bool) (g : Bool) (x6 x7 x8 x9 x10 : Slot) => [Slot.fz (HP h), .fz (.lst (rs.map nP)), .fz (.lst (ls.map lP)), .fz (.str [t]), .ow (.lst ((List.range h.rooms).map fun i => PV.bl (f i))), .fz (.bl g), x6, x7, x8, x9, x10]
  obtain ⟨W, hW⟩ : ∃ W : Nat → Env → Prop, ∀ m env, W m env ↔ (∃ f g x6 x7 x8 x9 x10, env = mk f g x6 x7 x8 x9 x10 ∧ (∀ i ∈ rs, f i = true) ∧ (∀ i, f i = true → reach z t rs i) ∧ (g = false → closed z t f) ∧ m = falses f h.rooms + if g = true then 1 else 0) := ⟨_, fun _ _ => Iff.rfl⟩
  refine whil_ev sp W _ ((hW _ _).mpr ⟨_, true, _, _, _, _, _, rfl, by simp, fun i hi => reach_in (by simpa using hi), by simp, rfl⟩) ?_
  intro m env hw
  obtain ⟨f, g, x6, x7, x8, x9, x10, rfl, hf1, hf2, hf3, rfl⟩ := (hW _ _).mp hw
  cases g with
  | false =>
    have hf := closed_B (hf3 rfl) hf1 hf2
    simp [mk, hR, rangeL_0]
    refine comp_flt sp (List.range h.rooms) _ f nP (by simp; omega) ?_ ?_
    · intro i hi k h1 h2
      have hi : i < h.rooms := by simpa using hi
      simp [ixl_rm hi, -ix_l]
      cases h3 : f i with
      | true => simpa using h1 h3
      | false => simpa using h2 h3
    · rw [hf]; exact hr
  | true =>
    simp [mk]
    rw [zw_eq, hz]
    refine for_map sp z _ (fun k e => ∃ f' g' x6 x7 x8 x9 x10, e = mk f' g' x6 x7 x8 x9 x10 ∧ (∀ i, f i = true → f' i = true) ∧ (∀ i, f' i = true → reach z t rs i) ∧ (g' = false → f' = f ∧ ∀ q ∈ z.take k, q.1 = t → f q.2.a = f q.2.b) ∧ (g' = true → falses f' h.rooms < falses f h.rooms)) ⟨f, false, _, _, _, _, _, rfl, fun i h => h, hf2, by simp, by simp⟩ ?_ ?_
    · rintro k ⟨l, d⟩ e J hq ⟨f', g', x6, x7, x8, x9, x10, rfl, i1, i2, i3, i4⟩ hJ
      have hd := zd _ (mem_of_get hq)
      simp [mk, ixl_rm hd.1, ixl_rm hd.2, hd.1, hd.2, set_bl, -ix_l]
      have stay : (l = t → f' d.a = f' d.b) → g' = false → f' = f ∧ ∀ q ∈ z.take (k + 1), q.1 = t → f q.2.a = f q.2.b := by
        intro hs hg
        obtain ⟨a1, a2⟩ := i3 hg
        refine ⟨a1, fun q hq' e => ?_⟩
        rw [take_snoc hq] at hq'
        rcases List.mem_append.mp hq' with h | h
        · exact a2 q h e
        · rw [List.mem_singleton.mp h, ← a1]
          rw [List.mem_singleton.mp h] at e
          exact hs e
      split
      · rename_i hl
        split
        · rename_i he
          exact hJ _ ⟨f', g', _, _, _, _, _, rfl, i1, i2, stay (fun _ => he), i4⟩
        · rename_i he
          have up : ∀ i, f' i = true → (decide (i = d.b) || (decide (i = d.a) || f' i)) = true := by
            intro i h; simp [h]
          have ad : Adj z t d.a d.b := ⟨_, mem_of_get hq, hl, .inl ⟨rfl, rfl⟩⟩
          have rr : reach z t rs d.a ∧ reach z t rs d.b := by
            cases h1 : f' d.a with
            | true => exact ⟨i2 _ h1, reach_adj ad.symm (i2 _ h1)⟩
            | false =>
              cases h2 : f' d.b with
              | true => exact ⟨reach_adj ad (i2 _ h2), i2 _ h2⟩
              | false => rw [h1, h2] at he; exact absurd rfl he
          refine hJ _ ⟨_, true, _, _, _, _, _, rfl, fun i h => up i (i1 i h), ?_, (fun e => by cases e), fun _ => ?_⟩
          · intro i h
            simp at h
            rcases h with h | h | h
            · rw [h]; exact rr.2
            · rw [h]; exact rr.1
            · exact i2 i h
          · have c1 := falses_le i1 h.rooms
            have c2 : falses (fun i => decide (i = d.b) || (decide (i = d.a) || f' i)) h.rooms < falses f' h.rooms := by
              cases h1 : f' d.a with
              | false => exact falses_lt up h1 (by simp) _ hd.1
              | true =>
                cases h2 : f' d.b with
                | false => exact falses_lt up h2 (by simp) _ hd.2
                | true => rw [h1, h2] at he; exact absurd rfl he
            omega
      · rename_i hl
        exact hJ _ ⟨f', g', _, _, _, _, _, rfl, i1, i2, stay (fun e => absurd e hl), i4⟩
    · rintro e ⟨f', g', x6, x7, x8, x9, x10, rfl, i1, i2, i3, i4⟩
      simp only [seqK_nx, evSs_ss0, loopK_nx]
      cases g' with
      | false =>
        refine ⟨_, ?_, (hW _ _).mpr ⟨f', false, _, _, _, _, _, rfl, fun i hi => i1 i (hf1 i hi), i2, fun _ => ?_, rfl⟩⟩
        · rw [(i3 rfl).1]; simp
        · have := (i3 rfl).2
          rw [List.take_length] at this
          rw [(i3 rfl).1]; exact this
      | true =>
        refine ⟨_, ?_, (hW _ _).mpr ⟨f', true, _, _, _, _, _, rfl, fun i hi => i1 i (hf1 i hi), i2, fun e => (by cases e), rfl⟩⟩
        have := i4 rfl
        simp; exact this
theorem ev__law_spread : ∀ ts R, s__law_spread ts R → evD sp [.va, .va, .va, .va, .va] 9 b__law_spread ts R := by
  rintro ts R ⟨h, hs, ls, t, rfl, ⟨H, hl, hh⟩, hr⟩
  refine evD_of sp rfl rfl ?_
  have m := H.most
  have m2 := H.many
  have hR : R62 (h.rooms : Int) := ⟨by omega, by omega⟩
  have hR2 : R62 (h.doors.length : Int) := ⟨by omega, by omega⟩
  have b1 : (h.rooms : Int) < 9223372036854775808 := by omega
  have b2 : h.rooms ≤ 16777216 := by omega
  simp [b__law_spread, b2]
  refine ⟨by omega, ?_⟩
  rw [rep_rm]
  generalize hz : ls.zip h.doors = z at hr
  have zd : ∀ q ∈ z, q.2.a < h.rooms ∧ q.2.b < h.rooms := by
    intro q hq
    rw [← hz] at hq
    obtain ⟨k, _, h2⟩ := zip_mem hq
    have D := H.dr _ (mem_of_get h2)
    exact ⟨D.a, D.b⟩
  have zl : z.length = h.doors.length := by rw [← hz, List.length_zip]; omega
  let mk := fun (f : Nat → Bool) (x6 x7 x8 : Slot) => [Slot.fz (.int (h.rooms : Nat)), .fz (.lst (h.doors.map dP)), .fz (.lst (hs.map hP)), .fz (.lst (ls.map lP)), .fz (.str [t]), .ow (.lst ((List.range h.rooms).map fun i => PV.bl (f i))), x6, x7, x8]
  refine for_map sp hs hP (fun k e => ∃ f x6 x7 x8, e = mk f x6 x7 x8 ∧ ∀ i, f i = true ↔ i ∈ roomsOf (hs.take k) t) ⟨_, _, _, _, rfl, by simp [roomsOf]⟩ ?_ ?_
  · rintro k q e J hq ⟨f, x6, x7, x8, rfl, hf⟩ hJ
    have hq2 := hh q (mem_of_get hq)
    simp [mk, hq2, set_bl]
    have e1 : roomsOf (hs.take (k + 1)) t = roomsOf (hs.take k) t ++ if q.1 = t then [q.2] else [] := by
      rw [take_snoc hq, roomsOf, List.filter_append, List.map_append, ← roomsOf]
      congr 1
      by_cases c : q.1 = t <;> simp [c]
    split
    · rename_i c
      refine hJ _ ⟨_, _, _, _, rfl, fun i => ?_⟩
      rw [e1, if_pos c, List.mem_append, ← hf i]
      simp [or_comm]
    · rename_i c
      refine hJ _ ⟨_, _, _, _, rfl, fun i => ?_⟩
      rw [e1, if_neg c, List.append_nil]; exact hf i
  · rintro e ⟨f0, x6, x7, x8, rfl, hf0⟩
    rw [List.take_length] at hf0
    simp [mk, hR, rangeL_0]
    generalize hrs : roomsOf hs t = rs at hf0 hr
    refine for_range sp h.rooms (fun k e => ∃ f x6 x7 x8, e = mk f x6 x7 x8 ∧ (∀ i ∈ rs, f i = true) ∧ (∀ i, f i = true → reach z t rs i) ∧ (closed z t f ∨ falses f h.rooms + k ≤ h.rooms)) ⟨f0, _, _, _, rfl, fun i hi => (hf0 i).mpr hi, fun i hi => reach_in ((hf0 i).mp hi), .inr (falses_n _ _)⟩ ?_ ?_
    · rintro k e J hk ⟨f, x6, x7, x8, rfl, hf1, hf2, hf3⟩ hJ
      simp [mk, hR2, rangeL_0]
      refine for_range sp h.doors.length (fun j e => ∃ f' x6 x7 x8, e = mk f' x6 x7 x8 ∧ (∀ i, f i = true → f' i = true) ∧ (∀ i, f' i = true → reach z t rs i) ∧ ((f' = f ∧ ∀ q ∈ z.take j, q.1 = t → f q.2.a = f q.2.b) ∨ falses f' h.rooms < falses f h.rooms)) ⟨f, _, _, _, rfl, fun i h => h, hf2, .inl ⟨rfl, by simp⟩⟩ ?_ ?_
      · rintro j e J' hj ⟨f', x6, x7, x8, rfl, i1, i2, i3⟩ hJ'
        obtain ⟨d, hd⟩ := get_ex hj
        obtain ⟨l, hl'⟩ := lenIs hl.symm hd
        have hq : z[j]? = some (l, d) := by rw [← hz, List.getElem?_zip_eq_some]; exact ⟨hl', hd⟩
        have hdd := zd _ (mem_of_get hq)
        simp only at hdd
        simp [mk, ixl_lt hd, ixl_lt hl', ixl_rm hdd.1, ixl_rm hdd.2, hdd.1, hdd.2, set_bl, -ix_l]
        have stay : (l = t → f' d.a = f' d.b) → f' = f → (∀ q ∈ z.take j, q.1 = t → f q.2.a = f q.2.b) → ∀ q ∈ z.take (j + 1), q.1 = t → f q.2.a = f q.2.b := by
          intro hs a1 a2 q hq' e
          rw [take_snoc hq] at hq'
          rcases List.mem_append.mp hq' with h | h
          · exact a2 q h e
          · rw [List.mem_singleton.mp h, ← a1]
            rw [List.mem_singleton.mp h] at e
            exact hs e
        have up : ∀ i, f' i = true → (decide (i = d.b) || (decide (i = d.a) || f' i)) = true := by
          intro i h; simp [h]
        have both : l = t → (f' d.a = true ∨ f' d.b = true) → J' (mk (fun i => decide (i = d.b) || (decide (i = d.a) || f' i)) x6 x7 (.fz (.int (j : Nat)))) := by
          intro e ho
          have ad : Adj z t d.a d.b := ⟨_, mem_of_get hq, e, .inl ⟨rfl, rfl⟩⟩
          have rr : reach z t rs d.a ∧ reach z t rs d.b := by
            rcases ho with h1 | h2
            · exact ⟨i2 _ h1, reach_adj ad.symm (i2 _ h1)⟩
            · exact ⟨reach_adj ad (i2 _ h2), i2 _ h2⟩
          refine hJ' _ ⟨_, _, _, _, rfl, fun i h => up i (i1 i h), ?_, ?_⟩
          · intro i h
            simp at h
            rcases h with h | h | h
            · rw [h]; exact rr.2
            · rw [h]; exact rr.1
            · exact i2 i h
          · by_cases c : f' d.a = true ∧ f' d.b = true
            · have same : (fun i => decide (i = d.b) || (decide (i = d.a) || f' i)) = f' := by
                funext i
                rw [Bool.eq_iff_iff]
                constructor
                · intro h
                  simp at h
                  rcases h with h | h | h
                  · rw [h]; exact c.2
                  · rw [h]; exact c.1
                  · exact h
                · exact up i
              rw [same]
              rcases i3 with ⟨a1, a2⟩ | a
              · exact .inl ⟨a1, stay (fun _ => by rw [c.1, c.2]) a1 a2⟩
              · exact .inr a
            · right
              have c1 := falses_le i1 h.rooms
              have c2 : falses (fun i => decide (i = d.b) || (decide (i = d.a) || f' i)) h.rooms < falses f' h.rooms := by
                cases h1 : f' d.a with
                | false => exact falses_lt up h1 (by simp) _ hdd.1
                | true =>
                  cases h2 : f' d.b with
                  | false => exact falses_lt up h2 (by simp) _ hdd.2
                  | true => exact absurd ⟨h1, h2⟩ c
              omega
        have none : (l = t → f' d.a = f' d.b) → J' (mk f' x6 x7 (.fz (.int (j : Nat)))) := by
          intro hs
          refine hJ' _ ⟨f', _, _, _, rfl, i1, i2, ?_⟩
          rcases i3 with ⟨a1, a2⟩ | a
          · exact .inl ⟨a1, stay hs a1 a2⟩
          · exact .inr a
        by_cases e : l = t
        · rw [if_pos e]
          split
          · rename_i h1; exact both e (.inl h1)
          · rename_i h1
            split
            · rename_i h2; exact both e (.inr h2)
            · rename_i h2; exact none fun _ => by rw [Bool.eq_false_iff.mpr h1, Bool.eq_false_iff.mpr h2]
        · rw [if_neg e]; exact none fun h => absurd h e
      · rintro e ⟨f', x6, x7, x8, rfl, i1, i2, i3⟩
        simp
        rw [← zl, List.take_length] at i3
        refine hJ _ ⟨f', _, _, _, rfl, fun i hi => i1 i (hf1 i hi), i2, ?_⟩
        rcases i3 with ⟨a1, a2⟩ | a
        · rw [a1]; exact .inl a2
        · rcases hf3 with b | b
          · have : falses f h.rooms ≤ falses f' h.rooms := falses_le (fun i hi => closed_all b hf1 (i2 i hi)) _
            omega
          · right; omega
    · rintro e ⟨f, x6, x7, x8, rfl, hf1, hf2, hf3⟩
      have hc : closed z t f := by
        rcases hf3 with c | c
        · exact c
        · have c0 : falses f h.rooms = 0 := by omega
          intro q hq _
          rw [falses_0 c0 _ (zd q hq).1, falses_0 c0 _ (zd q hq).2]
      have hf := closed_B hc hf1 hf2
      simp [mk]
      rw [hf]
      rw [List.map_map] at hr
      exact hr
theorem one_of_nodup {c : Int} : ∀ {ms : List Int}, ms.Nodup → (∀ z, z ∈ ms ↔ z = c) → ms.length = 1
  | [], _, h => by have := (h c).mpr rfl; cases this
  | [x], _, _ => rfl
  | x :: y :: l, nd, h => by
    have h1 := (h x).mp (by simp)
    have h2 := (h y).mp (by simp)
    rw [h1, h2] at nd
    simp at nd
theorem intsOf_map {α : Type} (f : α → Int) : ∀ xs : List α, intsOf (xs.map fun a => PV.int (f a)) = some (xs.map f)
  | [] => rfl
  | a :: xs => by simp [intsOf, intsOf_map f xs]
theorem ev__is_connected : ∀ ts R, s__is_connected ts R → evD sp [.va, .va] 9 b__is_connected ts R := by
  rintro ts R ⟨n, ds, rfl, ⟨h0, h1, hl, hd, hc⟩, hr⟩
  refine evD_of sp rfl rfl ?_
  have n1 : (-16777216 : Int) ≤ (n : Int) := by omega
  have n2 : n ≤ 16777216 := by omega
  simp [b__is_connected, n1, n2, rangeL_0]
  refine ⟨by omega, ?_⟩
  let mk := fun (g : Nat → Int) (x3 x4 x5 x6 x7 x8 : Slot) => [Slot.fz (.int (n : Nat)), .fz (.tup (ds.map dP)), .fz (.lst ((List.range n).map fun i => PV.int (g i))), x3, x4, x5, x6, x7, x8]
  refine for_map sp ds dP (fun k e => ∃ g x3 x4 x5 x6 x7 x8, e = mk g x3 x4 x5 x6 x7 x8 ∧ ∀ d ∈ ds.take k, g d.a = g d.b) ⟨_, _, _, _, _, _, _, rfl, by simp⟩ ?_ ?_
  · rintro k d e J hk ⟨g, x3, x4, x5, x6, x7, x8, rfl, hg⟩ hJ
    have hdd := hd d (mem_of_get hk)
    simp [mk, ixl_rm hdd.1, ixl_rm hdd.2, -ix_l]
    refine comp_map sp (List.range n) _ (fun i => .int (if g i = g d.a then g d.b else g i)) (by simp; omega) ?_ ?_
    · intro i hi kk hkk
      simp
      by_cases c : g i = g d.a
      · simp [c] at hkk ⊢; exact hkk
      · simp [c] at hkk ⊢; exact hkk
    · simp
      refine hJ _ ⟨_, _, _, _, _, _, _, rfl, ?_⟩
      intro q hq
      rw [take_snoc hk] at hq
      rcases List.mem_append.mp hq with h | h
      · have := hg q h
        simp only [this]
      · rw [List.mem_singleton.mp h]
        by_cases c : g d.b = g d.a
        · simp [c]
        · simp [c]
  · rintro e ⟨g, x3, x4, x5, x6, x7, x8, rfl, hg⟩
    rw [List.take_length] at hg
    simp [mk, intsOf_map]
    refine ⟨h1, ?_⟩
    intro k ms nd hm hk
    have all : ∀ i, i < n → g i = g 0 := fun i hi => hc (fun i => g i = g 0) (fun d hdm => by rw [hg d hdm]) 0 i h0 hi rfl
    have hone : ms.length = 1 := by
      refine one_of_nodup (c := g 0) nd fun z => ?_
      rw [hm z]
      constructor
      · rintro ⟨i, hi, rfl⟩
        exact all i hi
      · rintro rfl
        exact ⟨0, h0, rfl⟩
    rw [← hk, hone]
    simpa using hr
end Lt
/-! P7: ledgers -/
namespace Lt
open Lh
def cntH (hs : List (Nat × Nat)) (i : Nat) : Nat := (hs.filter fun q => decide (q.2 = i)).length
def sumD (z : List (Nat × Dr)) (i : Nat) : Nat := (z.map fun q => if q.2.a = i ∨ q.2.b = i then q.1 else 0).sum
theorem cntH_snoc (hs : List (Nat × Nat)) (q : Nat × Nat) (i : Nat) : cntH (hs ++ [q]) i = cntH hs i + if i = q.2 then 1 else 0 := by
  rw [cntH, List.filter_append, List.length_append, ← cntH]
  by_cases h : q.2 = i
  · simp [h]
  · have : ¬ i = q.2 := fun e => h e.symm
    simp [h, this]
theorem sumD_snoc (z : List (Nat × Dr)) (p : Nat) (d : Dr) (i : Nat) : sumD (z ++ [(p, d)]) i = sumD z i + if d.a = i ∨ d.b = i then p else 0 := by
  simp [sumD]
theorem ledgers_eq (h : Hs) (s : St) : ledgers h s = (List.range h.rooms).map fun i => (cntH s.hands i + sumD (s.places.zip h.doors) i) % 2 := rfl
end Lt
/-! P8: the defs of the program that call others -/
namespace Lt
open Lh
@[simp] theorem c_is_index {a b : Int} {K} : sp j_is_index [.fz (.int a), .fz (.int b)] K = K (.bl (decide (0 ≤ a) && decide (a < b))) [] := by
  rw [sp_is_index]
  refine propext ⟨fun ⟨a', b', e, h⟩ => ?_, fun h => ⟨a, b, rfl, h⟩⟩
  cases e; exact h
@[simp] theorem c__law_is_integer {a : Int} {K} : sp j__law_is_integer [.fz (.int a)] K = K (.bl true) [] := by
  rw [sp__law_is_integer]
  refine propext ⟨fun ⟨a', e, h⟩ => ?_, fun h => ⟨a, rfl, h⟩⟩
  exact h
theorem map_inj {α : Type} {f : α → PV} (hf : ∀ a b, f a = f b → a = b) : ∀ {xs ys : List α}, xs.map f = ys.map f → xs = ys
  | [], [], _ => rfl
  | [], _ :: _, h => by cases h
  | _ :: _, [], h => by cases h
  | a :: xs, b :: ys, h => by
    simp only [List.map_cons, List.cons.injEq] at h
    rw [hf a b h.1, map_inj hf h.2]
theorem dP_inj (a b : Dr) (h : dP a = dP b) : a = b := by
  cases a; cases b
  simp [dP] at h
  obtain ⟨h1, h2, h3⟩ := h
  have h1 := Int.ofNat.inj h1
  have h2 := Int.ofNat.inj h2
  subst h1 h2 h3; rfl
theorem HP_inj {a b : Hs} (h : HP a = HP b) : a = b := by
  cases a; cases b
  simp only [HP, PV.obj.injEq, List.cons.injEq, Prod.mk.injEq, PV.int.injEq, PV.tup.injEq, PV.str.injEq, true_and, and_true] at h
  obtain ⟨h1, h2, h3⟩ := h
  have h1 := Int.ofNat.inj h1
  have h2 := map_inj dP_inj h2
  subst h1 h2 h3; rfl
@[simp] theorem c__is_trade {h : Hs} {t : Nat} {K} : sp j__is_trade [.fz (HP h), .fz (.str [t])] K = K (.bl (decide (t = 42 ∨ t ∈ h.tr))) [] := by
  rw [sp__is_trade]
  refine propext ⟨fun ⟨h', t', e, hk⟩ => ?_, fun hk => ⟨h, t, rfl, hk⟩⟩
  simp only [List.cons.injEq, OV.fz.injEq, PV.str.injEq, and_true] at e
  obtain ⟨e1, e2⟩ := e
  have e1 := HP_inj e1
  subst e1 e2; exact hk
theorem all_true {α : Type} (xs : List α) : (xs.all fun _ => true) = true := by simp
theorem ev__is_door : ∀ ts R, s__is_door ts R → evD sp [.va, .va, .va] 7 b__is_door ts R := by
  rintro ts R ⟨n, tr, d, rfl, ⟨T, D⟩, hr⟩
  refine evD_of sp rfl rfl ?_
  have l1 := D.len
  have l2 := T.most
  have e1 : ¬ n ≤ d.a := by have := D.a; omega
  have e2 : ¬ n ≤ d.b := by have := D.b; omega
  have e3 : ¬ ((d.a : Int) = d.b) := by have := D.ne; omega
  simp [b__is_door, D.a, D.b, e1, e2, e3, D.ne]
  refine comp_map sp d.c _ (fun _ => .bl true) (by omega) ?_ ?_
  · intro c hc k hk
    simp [D.sub c hc]
    exact hk
  · have := blsOf_map (fun _ => true) d.c
    simp [this, all_true]
    refine comp_map sp tr _ (fun _ => .bl true) (by omega) ?_ ?_
    · intro c hc k hk
      simp [D.sup c hc]
      exact hk
    · have := blsOf_map (fun _ => true) tr
      simp [this, all_true]
      exact hr
theorem ev_fits : ∀ ts R, s_fits ts R → evD sp [.va, .va] 7 b_fits ts R := by
  rintro ts R ⟨h, s, rfl, ⟨H, S⟩, hr⟩
  refine evD_of sp rfl rfl ?_
  simp [b_fits, S.len]
  rw [zw_eq]
  refine for_map sp (s.places.zip h.doors) _ (fun _ e => ∃ x2 x3 x4 x5 x6, e = [.fz (HP h), .fz (SP s), x2, x3, x4, x5, x6]) ⟨_, _, _, _, _, rfl⟩ ?_ ?_
  · rintro k ⟨p, d⟩ e J hq ⟨x2, x3, x4, x5, x6, rfl⟩ hJ
    obtain ⟨g1, g2⟩ := zip_get hq
    have D := H.dr d (mem_of_get g2)
    have l1 := D.len
    have l2 := S.pl k p d g1 g2
    have l3 : d.c.length ≤ 16777216 := by omega
    have l4 : ¬ d.c.length ≤ p := by omega
    simp [l2, l3, l4]
    exact hJ _ ⟨_, _, _, _, _, rfl⟩
  · rintro e ⟨x2, x3, x4, x5, x6, rfl⟩
    simp
    refine for_map sp s.hands hP (fun _ e => ∃ x2 x3 x4 x5 x6, e = [.fz (HP h), .fz (SP s), x2, x3, x4, x5, x6]) ⟨_, _, _, _, _, rfl⟩ ?_ ?_
    · rintro k q e J hq ⟨x2, x3, x4, x5, x6, rfl⟩ hJ
      have g1 := S.tr q (mem_of_get hq)
      have g2 := S.rm q (mem_of_get hq)
      have g3 : ¬ h.rooms ≤ q.2 := by omega
      simp [g1, g2, g3]
      exact hJ _ ⟨_, _, _, _, _, rfl⟩
    · rintro e ⟨x2, x3, x4, x5, x6, rfl⟩
      simp
      exact hr
theorem ev_need_doors : ∀ ts R, s_need_doors ts R → evD sp [.va, .va] 3 b_need_doors ts R := by
  rintro ts R ⟨h, rs, rfl, hh, hr⟩
  refine evD_of sp rfl rfl ?_
  simp [b_need_doors]
  refine for_map sp rs nP (fun _ e => ∃ x, e = [.fz (HP h), .fz (.lst (rs.map nP)), x]) ⟨_, rfl⟩ ?_ ?_
  · rintro k q e J hq ⟨x, rfl⟩ hJ
    have g2 := hh q (mem_of_get hq)
    have g3 : ¬ h.doors.length ≤ q := by omega
    simp [g2, g3]
    exact hJ _ ⟨_, rfl⟩
  · rintro e ⟨x, rfl⟩
    simp
    exact hr
theorem ev_need_hands : ∀ ts R, s_need_hands ts R → evD sp [.va, .va] 3 b_need_hands ts R := by
  rintro ts R ⟨h, rs, rfl, hh, hr⟩
  refine evD_of sp rfl rfl ?_
  simp [b_need_hands]
  refine for_map sp rs nP (fun _ e => ∃ x, e = [.fz (SP h), .fz (.lst (rs.map nP)), x]) ⟨_, rfl⟩ ?_ ?_
  · rintro k q e J hq ⟨x, rfl⟩ hJ
    have g2 := hh q (mem_of_get hq)
    have g3 : ¬ h.hands.length ≤ q := by omega
    simp [g2, g3]
    exact hJ _ ⟨_, rfl⟩
  · rintro e ⟨x, rfl⟩
    simp
    exact hr
theorem ev_need_two_trades : ∀ ts R, s_need_two_trades ts R → evD sp [.va, .va] 2 b_need_two_trades ts R := by
  rintro ts R ⟨h, s, rfl, ⟨ht, hn⟩, hr⟩
  refine evD_of sp rfl rfl ?_
  simp [b_need_two_trades, ht]
  rw [sp_need_no_masters]
  refine ⟨s, rfl, hn, ?_⟩
  simp
  exact hr
theorem lightOf_0 {d : Dr} {p x : Nat} (hx : d.c[p]? = some x) : lightOf 0 d p = x := by
  have := lt_of_get hx
  rw [lightOf]
  have : ((p : Int) - 0) % (d.c.length : Int) = (p : Int) := by rw [Int.sub_zero]; exact Int.emod_eq_of_lt (by omega) (by omega)
  rw [this, Int.toNat_natCast, List.getD_eq_getElem?_getD, hx]; rfl
theorem ev__may_pass : ∀ ts R, s__may_pass ts R → evD sp [.va, .bo, .bo, .va, .va] 10 b__may_pass ts R := by
  rintro ts R ⟨h, s, i, j, xx, yy, rfl, hxy, ⟨H, S, hi, hj⟩, hr⟩
  refine evD_of sp rfl rfl ?_
  obtain ⟨q, hq⟩ := get_ex hi
  obtain ⟨d, hd⟩ := get_ex hj
  obtain ⟨p, hp⟩ := lenIs S.len.symm hd
  have hj' := lt_of_get hp
  have D := H.dr d (mem_of_get hd)
  have hpl := S.pl j p d hp hd
  obtain ⟨x, hx⟩ := get_ex hpl
  have hc2 : d.c.length ≤ 16777216 := by have := D.len; omega
  rw [mayB, hq, hd, hp] at hr
  simp only [lightOf_0 hx] at hr
  have n5 : ¬ s.hands.length ≤ i := by omega
  have n6 : ¬ s.places.length ≤ j := by omega
  have e : ∀ a b : Nat, ((a : Int) = b) ↔ a = b := fun a b => by omega
  rcases hxy with ⟨rfl, rfl⟩ | ⟨rfl, rfl⟩
  all_goals
    simp [b__may_pass, n5, n6, hi, hj', ixt_lt hq, ixt_lt hd, ixt_lt hp, ixl_lt hq, ixl_lt hd, ixl_lt hp, ixs_nat hx, hc2, inTwo, inTwoI, -ix_t, -ix_l]
    simp only [e] at *
    by_cases c : q.2 = d.a ∨ q.2 = d.b
    · simp [c] at hr ⊢; exact hr
    · simp [c] at hr ⊢; exact hr
theorem afterD_eq {h : Hs} {s : St} {i j : Nat} (hm : mayB h s i j = true) : ∃ q d p, s.hands[i]? = some q ∧ h.doors[j]? = some d ∧ s.places[j]? = some p ∧ (q.2 = d.a ∨ q.2 = d.b) ∧ (q.1 = 42 ∨ q.1 = lightOf 0 d p) ∧ afterD h s i j = ⟨s.hands.set i (q.1, d.a + d.b - q.2), s.places.set j ((p + 1) % d.c.length)⟩ := by
  rw [mayB] at hm
  split at hm
  · rename_i q d p hq hd hp
    simp only [Bool.and_eq_true, decide_eq_true_eq] at hm
    exact ⟨q, d, p, hq, hd, hp, hm.1, hm.2, by rw [afterD, hq, hd, hp]⟩
  · cases hm
theorem ev_after_deed : ∀ ts R, s_after_deed ts R → evD sp [.va, .va, .va, .va] 6 b_after_deed ts R := by
  rintro ts R ⟨h, s, i, j, rfl, ⟨H, S, hm⟩, hr⟩
  refine evD_of sp rfl rfl ?_
  obtain ⟨q, d, p, hq, hd, hp, ho, _, ha⟩ := afterD_eq hm
  rw [ha] at hr
  have D := H.dr d (mem_of_get hd)
  simp [b_after_deed]
  rw [sp__step]
  refine ⟨h, s.hands, s.places, i, j, q, d, p, rfl, ⟨hq, hd, hp, ho, D.pos H.tr, D.len⟩, ?_⟩
  simp [-List.map_set]
  rw [sp_Standing_init]
  refine ⟨⟨_, _⟩, _, _, rfl, ⟨?_, ?_⟩, .inl rfl, .inl rfl, ?_⟩
  · have := S.many; simp; omega
  · have := S.len; have := H.many; simp; omega
  · simp; exact hr
theorem ev_spread_over : ∀ ts R, s_spread_over ts R → evD sp [.va, .va, .va, .va] 4 b_spread_over ts R := by
  rintro ts R ⟨h, s, ls, t, rfl, ⟨H, hl⟩, hr⟩
  refine evD_of sp rfl rfl ?_
  simp [b_spread_over]
  rw [sp_rooms_of]
  refine ⟨s, t, rfl, hl, ?_⟩
  simp
  rw [sp_walk_from]
  refine ⟨h, _, ls, t, rfl, H, ?_⟩
  simp
  exact hr
theorem ev_House_init : ∀ ts R, s_House_init ts R → evD sp [.io, .va, .va, .va] 8 b_House_init ts R := by
  rintro ts R ⟨h, x, rfl, H, hx, hr⟩
  refine evD_of sp rfl rfl ?_
  have m2 := H.many
  have hR2 : R62 (h.doors.length : Int) := ⟨by omega, by omega⟩
  have e1 : ¬ (h.rooms : Int) < 1 := by have := H.pos; omega
  have e2 : ¬ h.rooms = 0 := by have := H.pos; omega
  have main : ∀ xs : PV, (∀ Q : List PV → Prop, Q (h.doors.map dP) → itR xs Q) → evSs sp b_House_init [.io (.obj 0 []), .fz (.int (h.rooms : Nat)), .fz xs, .fz (.str h.tr), .u, .u, .u, .u] (finK [.io, .va, .va, .va] R) := by
    intro xs hxs
    simp [b_House_init, e1, e2]
    refine hxs _ ?_
    refine comp_map sp h.doors dP dP (by omega) ?_ ?_
    · intro d hd k hk
      simp
      exact hk
    · simp [e1, e2]
      rw [sp__are_trades]
      refine ⟨h.tr, rfl, H.tr, ?_⟩
      simp [hR2, rangeL_0]
      refine for_range sp h.doors.length (fun _ e => ∃ x4 x5 x6 x7, e = [.io (.obj 0 (HO h)), .fz (.int (h.rooms : Nat)), .fz xs, .fz (.str h.tr), x4, x5, x6, x7]) ⟨_, _, _, _, rfl⟩ ?_ ?_
      · rintro k e J hk ⟨x4, x5, x6, x7, rfl⟩ hJ
        obtain ⟨d, hd⟩ := get_ex hk
        simp [HO, ixt_lt hd, -ix_t]
        rw [sp__is_door]
        refine ⟨h.rooms, h.tr, d, rfl, ⟨H.tr, H.dr d (mem_of_get hd)⟩, ?_⟩
        simp
        exact hJ _ ⟨_, _, _, _, rfl⟩
      · rintro e ⟨x4, x5, x6, x7, rfl⟩
        simp [HO]
        rw [sp__is_connected]
        refine ⟨h.rooms, h.doors, rfl, ⟨H.pos, H.most, H.many, fun d hd => ⟨(H.dr d hd).a, (H.dr d hd).b⟩, H.conn⟩, ?_⟩
        simp
        exact hr
  rcases hx with rfl | rfl
  · exact main _ fun Q h => h
  · exact main _ fun Q h => h
theorem ev_need_fits : ∀ ts R, s_need_fits ts R → evD sp [.va, .va] 2 b_need_fits ts R := by
  rintro ts R ⟨h, s, rfl, HS, hr⟩
  refine evD_of sp rfl rfl ?_
  simp [b_need_fits]
  rw [sp_fits]
  refine ⟨h, s, rfl, HS, ?_⟩
  simp
  exact hr
theorem ev_is_possible : ∀ ts R, s_is_possible ts R → evD sp [.va, .va, .va, .va] 4 b_is_possible ts R := by
  rintro ts R ⟨h, s, i, j, rfl, HS, hr⟩
  refine evD_of sp rfl rfl ?_
  simp [b_is_possible]
  rw [sp__may_pass]
  refine ⟨h, s, i, j, _, _, rfl, .inl ⟨rfl, rfl⟩, HS, ?_⟩
  simp
  exact hr
theorem ev_shared_rooms : ∀ ts R, s_shared_rooms ts R → evD sp [.va, .va, .va] 6 b_shared_rooms ts R := by
  rintro ts R ⟨h, s, back, rfl, ⟨H, S⟩, hr⟩
  refine evD_of sp rfl rfl ?_
  have m := H.most
  have m3 := S.many
  simp [b_shared_rooms]
  rw [sp_lights_at]
  refine ⟨h, s, back, rfl, ⟨H, S⟩, ?_⟩
  simp
  rw [sp_spread_over]
  refine ⟨h, s, _, 66, rfl, ⟨H, by omega⟩, ?_⟩
  simp
  refine ⟨h, s, _, 82, rfl, ⟨H, by omega⟩, ?_⟩
  simp
  generalize hB : reachB ((lights h s back).zip h.doors) 66 (roomsOf s.hands 66) = fb
  generalize hA : reachB ((lights h s back).zip h.doors) 82 (roomsOf s.hands 82) = fa
  have e : shared h s back = ((List.range h.rooms).filter fa).filter fb := by
    rw [shared, sharedL, hA, hB, List.filter_filter]
    congr 1
    funext i; rw [Bool.and_comm]
  rw [e] at hr
  have hl : ((List.range h.rooms).filter fa).length ≤ h.rooms := by
    have := List.length_filter_le fa (List.range h.rooms)
    simpa using this
  refine comp_flt sp ((List.range h.rooms).filter fa) nP fb nP (by omega) ?_ ?_
  · intro i hi k h1 h2
    have hi : i < h.rooms ∧ fa i = true := by simpa using hi
    simp [inNats]
    cases c : fb i with
    | true => simp [hi]; exact h1 c
    | false => simp [hi]; exact h2 c
  · exact hr
theorem ev_do : ∀ ts R, s_do ts R → evD sp [.va, .va, .va, .va] 4 b_do ts R := by
  rintro ts R ⟨h, s, i, j, rfl, ⟨H, S, hm⟩, hr⟩
  refine evD_of sp rfl rfl ?_
  obtain ⟨q, d, p, hq, hd, hp, ho, _, ha⟩ := afterD_eq hm
  have hi := lt_of_get hq
  have hj := lt_of_get hd
  simp [b_do]
  rw [sp_need_fits]
  refine ⟨h, s, rfl, ⟨H, S⟩, ?_⟩
  simp
  rw [sp_need_hands]
  refine ⟨s, [i], rfl, by simpa using hi, ?_⟩
  simp
  rw [sp_need_doors]
  refine ⟨h, [j], rfl, by simpa using hj, ?_⟩
  simp
  rw [sp_is_possible]
  refine ⟨h, s, i, j, rfl, ⟨H, S, hi, hj⟩, ?_⟩
  simp [hm]
  rw [sp_after_deed]
  refine ⟨h, s, i, j, rfl, ⟨H, S, hm⟩, ?_⟩
  simp
  exact hr
theorem ev_meeting_rooms : ∀ ts R, s_meeting_rooms ts R → evD sp [.va, .va] 2 b_meeting_rooms ts R := by
  rintro ts R ⟨h, s, rfl, ⟨H, S, ht, hn⟩, hr⟩
  refine evD_of sp rfl rfl ?_
  simp [b_meeting_rooms]
  rw [sp_need_fits]
  refine ⟨h, s, rfl, ⟨H, S⟩, ?_⟩
  simp
  rw [sp_need_two_trades]
  refine ⟨h, s, rfl, ⟨ht, hn⟩, ?_⟩
  simp
  rw [sp_shared_rooms]
  refine ⟨h, s, 0, rfl, ⟨H, S⟩, ?_⟩
  simp
  exact hr
theorem cmp_nil {ns : List PV} {Q : PV → Prop} (hd : dataBs 7 ns = true) : cmpR .ne (.lst ns) (.lst []) Q = Q (.bl (!ns.isEmpty)) := by
  rw [cmp_ne]
  have e1 : okEq (.lst ns) (.lst []) = true := by simp [okEq, dataB, dataBs, hd]
  have e2 : eqPV (.lst ns) (.lst []) = ns.isEmpty := by
    cases ns <;> rfl
  rw [e1, e2]; simp
theorem cmp_nilE {ns : List PV} {Q : PV → Prop} (hd : dataBs 7 ns = true) : cmpR .eq (.lst ns) (.lst []) Q = Q (.bl (ns.isEmpty)) := by
  rw [cmp_eq]
  have e1 : okEq (.lst ns) (.lst []) = true := by simp [okEq, dataB, dataBs, hd]
  have e2 : eqPV (.lst ns) (.lst []) = ns.isEmpty := by
    cases ns <;> rfl
  rw [e1, e2]; simp
theorem data_nP (k : Nat) : ∀ ns : List Nat, dataBs k (ns.map nP) = true
  | [] => by cases k <;> rfl
  | n :: ns => by simp [dataBs, dataB, data_nP k ns]
theorem data_pP (k : Nat) : ∀ ns : List (Nat × Nat), dataBs (k + 1) (ns.map pP) = true
  | [] => rfl
  | n :: ns => by simp [dataBs, dataB, pP, data_pP k ns]
theorem ev_is_live : ∀ ts R, s_is_live ts R → evD sp [.va, .va] 2 b_is_live ts R := by
  rintro ts R ⟨h, s, rfl, HS, hr⟩
  refine evD_of sp rfl rfl ?_
  simp [b_is_live]
  rw [sp_meeting_rooms]
  refine ⟨h, s, rfl, HS, ?_⟩
  simp [cmp_nil (data_nP 7 _)]
  exact hr
theorem fm_if {α : Type} (p : α → Bool) (g : α → PV) (xs : List α) : xs.filterMap (fun a => if p a = true then some (g a) else none) = (xs.filter p).map g := by
  induction xs with
  | nil => rfl
  | cons a xs ih => cases h : p a <;> simp [List.filterMap_cons, h, ih]
theorem ev_possible_deeds : ∀ ts R, s_possible_deeds ts R → evD sp [.va, .va] 6 b_possible_deeds ts R := by
  rintro ts R ⟨h, s, rfl, ⟨H, S⟩, hr⟩
  refine evD_of sp rfl rfl ?_
  have m1 := H.many
  have m2 := S.many
  have hR1 : R62 (s.hands.length : Int) := ⟨by omega, by omega⟩
  have hR2 : R62 (h.doors.length : Int) := ⟨by omega, by omega⟩
  simp [b_possible_deeds]
  rw [sp_need_fits]
  refine ⟨h, s, rfl, ⟨H, S⟩, ?_⟩
  simp [hR1, hR2, rangeL_0]
  have lin : ∀ i, (((List.range h.doors.length).filter (mayB h s i)).map fun j => pP (i, j)).length ≤ 1000 := by
    intro i
    have := List.length_filter_le (mayB h s i) (List.range h.doors.length)
    simp at this ⊢
    omega
  have lall : ∀ xs : List Nat, (xs.flatMap fun i => ((List.range h.doors.length).filter (mayB h s i)).map fun j => pP (i, j)).length ≤ xs.length * 1000 := by
    intro xs
    induction xs with
    | nil => simp
    | cons x xs ih =>
      rw [List.flatMap_cons, List.length_append, List.length_cons]
      have := lin x
      omega
  refine comp2_fm sp _ (fun i => ((List.range h.doors.length).filter (mayB h s i)).map fun j => pP (i, j)) (List.range s.hands.length) [] ?_ ?_ ?_
  · intro i hi acc k hl hk
    have hi : i < s.hands.length := by simpa using hi
    simp [rangeL_0]
    refine comp_fm sp _ (fun j => if mayB h s i j = true then some (pP (i, j)) else none) (List.range h.doors.length) acc ?_ ?_ ?_
    · rw [fm_if]; exact hl
    · intro j hj kk hkk
      have hj : j < h.doors.length := by simpa using hj
      simp
      rw [sp_is_possible]
      refine ⟨h, s, i, j, rfl, ⟨H, S, hi, hj⟩, ?_⟩
      cases c : mayB h s i j with
      | true => simp [c] at hkk ⊢; exact hkk
      | false => simp [c] at hkk ⊢; exact hkk
    · rw [fm_if]; exact hk
  · have := lall (List.range s.hands.length)
    simp at this ⊢
    omega
  · simp
    have e : (deeds h s).map pP = (List.range s.hands.length).flatMap fun i => ((List.range h.doors.length).filter (mayB h s i)).map fun j => pP (i, j) := by
      rw [deeds, List.map_flatMap]
      congr 1
      funext i
      rw [List.map_map]; rfl
    rw [← e]; exact hr
end Lt
/-! P9: growth, safe deeds, the law's own defs -/
namespace Lt
open Lh
theorem ixt_last {ds : List Dr} {d : Dr} {Q : PV → Prop} : ixR (.tup ((ds ++ [d]).map dP)) (.int (-1)) Q = Q (dP d) := by
  rw [ix_t]
  have e : pyIx ((ds ++ [d]).map dP).length (-1) = some ds.length := by
    simp [pyIx]; omega
  have e2 : ((ds ++ [d]).map dP)[ds.length]? = some (dP d) := by simp
  refine propext ⟨fun ⟨k, p, h1, h2, q⟩ => ?_, fun q => ⟨_, _, e, e2, q⟩⟩
  rw [e] at h1
  cases h1
  rw [e2] at h2
  cases h2
  exact q
theorem afterD_ok {h : Hs} {s : St} {i j : Nat} (H : HsOk h) (S : StOk h s) (hm : mayB h s i j = true) : StOk h (afterD h s i j) := by
  obtain ⟨q, d, p, hq, hd, hp, ho, hl, ha⟩ := afterD_eq hm
  have D := H.dr d (mem_of_get hd)
  rw [ha]
  refine ⟨by simpa using S.len, ?_, ?_, ?_, by simpa using S.many⟩
  · intro k p' d' h1 h2
    simp only at h1
    rw [List.getElem?_set] at h1
    split at h1
    · rename_i e
      subst e
      rw [hd] at h2
      cases h2
      split at h1
      · cases h1
        exact Nat.mod_lt _ (D.pos H.tr)
      · cases h1
    · exact S.pl k p' d' h1 h2
  · intro q' hq'
    rcases List.mem_or_eq_of_mem_set hq' with h1 | h1
    · exact S.tr q' h1
    · rw [h1]; exact S.tr q (mem_of_get hq)
  · intro q' hq'
    rcases List.mem_or_eq_of_mem_set hq' with h1 | h1
    · exact S.rm q' h1
    · rw [h1]
      have := D.a
      have := D.b
      simp only
      omega
theorem mem_deeds {h : Hs} {s : St} {q : Nat × Nat} : q ∈ deeds h s ↔ q.1 < s.hands.length ∧ q.2 < h.doors.length ∧ mayB h s q.1 q.2 = true := by
  obtain ⟨i, j⟩ := q
  simp [deeds]
theorem deeds_len (h : Hs) (s : St) (m1 : h.doors.length < 1000) (m2 : s.hands.length < 1000) : (deeds h s).length ≤ 1000000 := by
  have lin : ∀ i, (((List.range h.doors.length).filter (mayB h s i)).map fun j => (i, j)).length ≤ 1000 := by
    intro i
    have := List.length_filter_le (mayB h s i) (List.range h.doors.length)
    simp at this ⊢
    omega
  have lall : ∀ xs : List Nat, (xs.flatMap fun i => ((List.range h.doors.length).filter (mayB h s i)).map fun j => (i, j)).length ≤ xs.length * 1000 := by
    intro xs
    induction xs with
    | nil => simp
    | cons x xs ih =>
      rw [List.flatMap_cons, List.length_append, List.length_cons]
      have := lin x
      omega
  have := lall (List.range s.hands.length)
  rw [List.length_range] at this
  rw [deeds]
  omega
@[simp] theorem bind_pP {t1 t2 env Q} {q : Nat × Nat} : bindT (.tp [t1, t2]) (pP q) env Q = bindTs [t1, t2] [.int q.1, .int q.2] env Q := by simp [pP]
theorem Conn_more {n : Nat} {ds es : List Dr} (h : Conn n ds) (hs : ∀ d ∈ ds, d ∈ es) : Conn n es := fun S hS => h S fun d hd => hS d (hs d hd)
theorem addD_ok {h : Hs} {d : Dr} (H : HsOk h) (hl : h.doors.length < 999) (D : DrOk h.rooms h.tr d) : HsOk (addD h d) := by
  refine ⟨H.pos, H.most, by simp [addD]; omega, H.tr, ?_, Conn_more H.conn fun d hd => by simp [addD, hd]⟩
  intro d' hd'
  rcases List.mem_append.mp hd' with h1 | h1
  · exact H.dr d' h1
  · rw [List.mem_singleton.mp h1]; exact D
theorem addR_ok {h : Hs} {d : Dr} (H : HsOk h) (hl : h.doors.length < 999) (hl2 : h.rooms < 999) (e : d.b = h.rooms) (ha : d.a < h.rooms) (D : DrOk (h.rooms + 1) h.tr d) : HsOk (addR h d) := by
  refine ⟨by simp [addR], by simp [addR]; omega, by simp [addR]; omega, H.tr, ?_, ?_⟩
  · intro d' hd'
    rcases List.mem_append.mp hd' with h1 | h1
    · have D' := H.dr d' h1
      exact ⟨by have := D'.a; simp [addR]; omega, by have := D'.b; simp [addR]; omega, D'.ne, D'.sub, D'.sup, D'.len⟩
    · rw [List.mem_singleton.mp h1]; exact D
  · intro S hS i j hi hj
    have old := H.conn S fun d hd => hS d (by simp [addR, hd])
    have new : S d.a ↔ S h.rooms := by
      have := hS d (by simp [addR])
      rwa [e] at this
    simp only [addR] at hi hj
    intro hi'
    by_cases c1 : i = h.rooms
    · subst c1
      by_cases c2 : j = h.rooms
      · subst c2; exact hi'
      · exact old d.a j ha (by omega) (new.mpr hi')
    · by_cases c2 : j = h.rooms
      · subst c2
        exact new.mp (old i d.a (by omega) ha hi')
      · exact old i j (by omega) (by omega) hi'
theorem ev__law_integers : ∀ ts R, s__law_integers ts R → evD sp [.va] 2 b__law_integers ts R := by
  rintro ts R ⟨ns, rfl, hl, hr⟩
  refine evD_of sp rfl rfl ?_
  simp [b__law_integers]
  refine comp_map sp ns nP (fun _ => .bl true) (by omega) ?_ ?_
  · intro n hn k hk
    simp
    exact hk
  · have := blsOf_map (fun _ => true) ns
    simp [this, all_true]
    exact hr
theorem ev__law_is_standing : ∀ ts R, s__law_is_standing ts R → evD sp [.va, .va, .va] 5 b__law_is_standing ts R := by
  rintro ts R ⟨s, rfl, ⟨l1, l2⟩, hr⟩
  refine evD_of sp rfl rfl ?_
  have hR1 : R62 (s.hands.length : Int) := ⟨by omega, by omega⟩
  have hR2 : R62 (s.places.length : Int) := ⟨by omega, by omega⟩
  simp [b__law_is_standing, hR1, rangeL_0]
  refine for_range sp s.hands.length (fun _ e => ∃ x3 x4, e = [.fz (SP s), .fz (.lst (s.hands.map hP)), .fz (.lst (s.places.map nP)), x3, x4]) ⟨_, _, rfl⟩ ?_ ?_
  · rintro k e J hk ⟨x3, x4, rfl⟩ hJ
    obtain ⟨q, hq⟩ := get_ex hk
    simp [ixt_lt hq, ixl_lt hq, -ix_t, -ix_l]
    exact hJ _ ⟨_, _, rfl⟩
  · rintro e ⟨x3, x4, rfl⟩
    simp [hR2, rangeL_0]
    refine for_range sp s.places.length (fun _ e => ∃ x3 x4, e = [.fz (SP s), .fz (.lst (s.hands.map hP)), .fz (.lst (s.places.map nP)), x3, x4]) ⟨_, _, rfl⟩ ?_ ?_
    · rintro k e J hk ⟨x3, x4, rfl⟩ hJ
      obtain ⟨q, hq⟩ := get_ex hk
      simp [ixt_lt hq, ixl_lt hq, -ix_t, -ix_l]
      exact hJ _ ⟨_, _, rfl⟩
    · rintro e ⟨x3, x4, rfl⟩
      simp
      exact hr
end Lt
/-! P10: what the law draws -/
namespace Lt
open Lh
theorem rep2_len (m a b : Nat) : (List.replicate m [a, b]).flatten.length = 2 * m := by
  simp; omega
theorem rep2_a (a b : Nat) : ∀ m k : Nat, k < m → (List.replicate m [a, b]).flatten[2 * k]? = some a
  | 0, k, h => by omega
  | m + 1, 0, h => by simp [List.replicate_succ]
  | m + 1, k + 1, h => by
    have := rep2_a a b m k (by omega)
    rw [List.replicate_succ, List.flatten_cons, List.getElem?_append_right (by simp; omega)]
    rw [show 2 * (k + 1) - [a, b].length = 2 * k by simp; omega]
    exact this
theorem rep2_b (a b : Nat) : ∀ m k : Nat, k < m → (List.replicate m [a, b]).flatten[2 * k + 1]? = some b
  | 0, k, h => by omega
  | m + 1, 0, h => by simp [List.replicate_succ]
  | m + 1, k + 1, h => by
    have := rep2_b a b m k (by omega)
    rw [List.replicate_succ, List.flatten_cons, List.getElem?_append_right (by simp; omega)]
    rw [show 2 * (k + 1) + 1 - [a, b].length = 2 * k + 1 by simp; omega]
    exact this
theorem rep2_map (m a b : Nat) : (List.replicate m [PV.int (a : Int), PV.int (b : Int)]).flatten = ((List.replicate m [a, b]).flatten).map nP := by
  rw [List.map_flatten, List.map_replicate]; rfl
theorem rep2_mem {m a b x : Nat} (h : x ∈ (List.replicate m [a, b]).flatten) : x = a ∨ x = b := by
  rw [List.mem_flatten] at h
  obtain ⟨l, hl, hx⟩ := h
  have := (List.mem_replicate.mp hl).2
  rw [this] at hx
  simpa using hx
theorem cut_from {α : Type} (l : List α) (k : Nat) : cutP l (some (k : Int)) none = l.drop k := by
  simp only [cutP, slEnd]
  rw [if_pos (Int.natCast_nonneg k), Int.toNat_natCast]
  by_cases c : k ≤ l.length
  · rw [Nat.min_eq_left c, List.take_of_length_le (by rw [List.length_drop]; omega)]
  · rw [Nat.min_eq_right (by omega), List.drop_length, List.drop_eq_nil_of_le (by omega), List.take_nil]
theorem shared_in {n : Nat} {z : List (Nat × Dr)} {hs : List (Nat × Nat)} {i : Nat} : i ∈ sharedL n z hs ↔ i < n ∧ reach z 82 (roomsOf hs 82) i ∧ reach z 66 (roomsOf hs 66) i := by
  simp [sharedL, reachB_t]
end Lt
/-! P11: the drawn house -/
namespace Lt
open Lh
theorem take_ins_mem {α : Type} {l : List α} {i : Nat} {y x : α} : x ∈ l.take i ++ [y] ++ l.drop i ↔ x = y ∨ x ∈ l := by
  have : x ∈ l ↔ x ∈ l.take i ∨ x ∈ l.drop i := by
    rw [← List.mem_append, List.take_append_drop]
  rw [this]
  simp
  constructor
  · rintro (h | h | h)
    · exact .inr (.inl h)
    · exact .inl h
    · exact .inr (.inr h)
  · rintro (h | h | h)
    · exact .inr (.inl h)
    · exact .inl h
    · exact .inr (.inr h)
theorem take_ins_len {α : Type} {l : List α} {i : Nat} {y : α} : (l.take i ++ [y] ++ l.drop i).length = l.length + 1 := by
  simp; omega
theorem take_ins_nd {l : List Nat} {i y : Nat} (h : l.Nodup) (hy : ¬ y ∈ l) : (l.take i ++ [y] ++ l.drop i).Nodup := by
  have e : l.take i ++ l.drop i = l := List.take_append_drop i l
  have p : (l.take i ++ [y] ++ l.drop i).Perm (y :: l) := by
    have : (y :: l) = y :: (l.take i ++ l.drop i) := by rw [e]
    rw [this, List.append_assoc]
    exact List.perm_middle
  rw [p.nodup_iff]
  exact List.nodup_cons.mpr ⟨hy, h⟩
theorem nd_get {l : List Nat} (h : l.Nodup) {i j x : Nat} (h1 : l[i]? = some x) (h2 : l[j]? = some x) : i = j := by
  have a := lt_of_get h1
  have b := lt_of_get h2
  exact (List.getElem?_inj a h).mp (h1.trans h2.symm)
/-- the doors of a drawn house join all rooms -/
theorem Conn_of {n : Nat} {names : List Nat} {ds : List Dr} (hl : names.length = n) (hm : ∀ x, x ∈ names ↔ x < n)
    (hd : ∀ j, j + 1 < n → ∃ d ∈ ds, ∃ i x y, i ≤ j ∧ names[i]? = some x ∧ names[j + 1]? = some y ∧ ((d.a = x ∧ d.b = y) ∨ (d.a = y ∧ d.b = x))) : Conn n ds := by
  intro S hS
  have up : ∀ (k : Nat) (x : Nat), names[k]? = some x → ∀ x0, names[0]? = some x0 → (S x ↔ S x0) := by
    intro k
    induction k using Nat.strongRecOn with
    | ind k ih =>
      intro x hx x0 h0
      cases k with
      | zero => rw [h0] at hx; cases hx; exact Iff.rfl
      | succ j =>
        have hj := lt_of_get hx
        obtain ⟨d, hdm, i, x1, y, hi, e1, e2, e3⟩ := hd j (by omega)
        rw [hx] at e2
        cases e2
        have := ih i (by omega) x1 e1 x0 h0
        have s := hS d hdm
        rcases e3 with ⟨a, b⟩ | ⟨a, b⟩
        · rw [a, b] at s; exact s.symm.trans this
        · rw [a, b] at s; exact s.trans this
  intro i j hi hj h
  obtain ⟨ki, hki⟩ := List.getElem?_of_mem ((hm i).mpr hi)
  obtain ⟨kj, hkj⟩ := List.getElem?_of_mem ((hm j).mpr hj)
  have n0 : 0 < names.length := by omega
  obtain ⟨x0, h0⟩ := get_ex n0
  exact (up kj j hkj x0 h0).mpr ((up ki i hki x0 h0).mp h)
theorem rep1_map (l a : Nat) : (List.replicate l (PV.int (a : Int))) = (List.replicate l a).map nP := by
  rw [List.map_replicate]; rfl
theorem ev__law_house : ∀ ts R, s__law_house ts R → evD sp [.va, .va, .va, .va, .va] 17 b__law_house ts R := by
  rintro ts R ⟨c, m, e, l, rfl, ⟨m1, m2, he, l1, l2⟩, hr⟩
  refine evD_of sp rfl rfl ?_
  have hR : R62 (m : Int) := ⟨by omega, by omega⟩
  have a1 : m ≤ 16777216 := by omega
  have a2 : m + 2 ≤ 16777216 := by omega
  obtain ⟨n, hn⟩ : ∃ n : Nat, (m : Int) - 1 + e = (n : Int) := ⟨m - 1 + e, by omega⟩
  have hR2 : R62 (n : Int) := ⟨by omega, by omega⟩
  simp [b__law_house, hR, rangeL_0]
  refine comp_map sp (List.range m) _ (fun k => nP (k + 1)) (by simp; omega) ?_ ?_
  · intro k hk kk hkk
    simp
    exact hkk
  · simp [hn, hR2, rangeL_0]
    refine ⟨by omega, ?_⟩
    let mk0 := fun (rest : List Nat) (x7 : Slot) => [Slot.fz (.int c), .fz (.int (m : Nat)), .fz (.int (e : Nat)), .fz (.int (l : Nat)), .fz (.bl false), .fz (.lst ((m :: (e + 1) :: rest).map nP)), .fz (.int (4 + (l : Int) + 1)), x7, .u, .u, .u, .u, .u, .u, .u, .u, .u]
    have hb : ∀ k, k ≤ n → k * (5 + l) ≤ 300 := fun k hk => Nat.le_trans (Nat.mul_le_mul (show k ≤ 12 by omega) (show 5 + l ≤ 25 by omega)) (by decide)
    refine for_range sp n (fun k e' => ∃ (rest : List Nat) (x7 : Slot), e' = mk0 rest x7 ∧ rest.length = m + k * (5 + l) ∧ ∀ x ∈ rest, 0 < x ∧ x < 1000) ⟨(List.range m).map (· + 1), .u, by simp [mk0], by simp, ?_⟩ ?_ ?_
    · intro x hx
      simp at hx
      obtain ⟨a, ha, rfl⟩ := hx
      omega
    · rintro k env J hk ⟨rest, x7, rfl, hl, hp⟩ hJ
      have hbk := hb k (by omega)
      have b1 : rest.length ≤ 16777216 - 7 := by omega
      have b2 : l ≤ 16777216 := by omega
      simp [mk0, rep1_map]
      refine ⟨by omega, by omega, by omega, ?_⟩
      refine hJ _ ⟨rest ++ [m, m, 2, m + e, 60] ++ List.replicate l 2, .fz (.int (k : Nat)), ?_, ?_, ?_⟩
      · simp [mk0]
      · simp; rw [hl, Nat.succ_mul]; omega
      · intro x hx
        simp at hx
        rcases hx with hx | hx | hx | hx | hx | hx
        · exact hp x hx
        all_goals omega
    · rintro env ⟨rest, x7, rfl, hl, hp⟩
      have hbn := hb n (by omega)
      simp [mk0]
      rw [sp__law_row]
      refine ⟨c, m :: (e + 1) :: rest, by simp, ⟨by simp; omega, ?_⟩, ?_⟩
      · intro x hx
        rcases List.mem_cons.mp hx with h | hx
        · omega
        · rcases List.mem_cons.mp hx with h | hx
          · omega
          · exact ⟨(hp x hx).1, by have := (hp x hx).2; omega⟩
      · intro r hrl hrb
        have hrl : r.length = 2 + m + n * (5 + l) := by rw [hrl]; simp; omega
        have big : ∀ (k x : Nat), r[k]? = some x → x < 1000 := by
          intro k x hx
          have hk := lt_of_get hx
          obtain ⟨y, hy⟩ := get_ex (xs := m :: (e + 1) :: rest) (k := k) (by simp; omega)
          have h1 := hrb k x y hx hy
          have : y < 1000 := by
            rcases List.mem_cons.mp (mem_of_get hy) with h | hx
            · omega
            · rcases List.mem_cons.mp hx with h | hx
              · omega
              · exact (hp y hx).2
          omega
        obtain ⟨x0, hx0⟩ := get_ex (xs := r) (k := 0) (by omega)
        obtain ⟨x1, hx1⟩ := get_ex (xs := r) (k := 1) (by omega)
        have y0 := hrb 0 x0 m hx0 rfl
        have y1 := hrb 1 x1 (e + 1) hx1 rfl
        have i0 := ixl_i (f := nP) hx0 (show (0 : Int) = ((0 : Nat) : Int) from rfl)
        have i1 := ixl_i (f := nP) hx1 (show (1 : Int) = ((1 : Nat) : Int) from rfl)
        have hR3 : R62 (1 + (x0 : Int)) := ⟨by omega, by omega⟩
        have e3 : (1 + (x0 : Int)).toNat = x0 + 1 := by omega
        -- the rest, by the number of doors
        have rest_ : ∀ many : Nat, many ≤ x0 + e → x0 ≤ many → (x0 = 0 → many = 0) → forK sp (Tg.nm 7)
            (ss [S.mu Mu.insert (LV.nm 11) (es [(E.var 8).ix (E.bin BOp.add (E.cint 2) (E.var 7)), E.var 7])])
            [Slot.fz (.int c), .fz (.int (m : Nat)), .fz (.int (e : Nat)), .fz (.int (l : Nat)), .fz (.bl false), .fz (PV.lst (PV.int (m : Nat) :: PV.int ((e : Int) + 1) :: List.map nP rest)), .fz (.int (4 + (l : Int) + 1)), x7, .fz (.lst (r.map nP)), .fz (.int (1 + (x0 : Int))), .fz (.int (many : Nat)), .ow (.lst []), .u, .u, .u, .u, .u]
            (seqK sp (ss [S.frz 11, S.asg 12 (E.lst (es [])),
            S.for_ (Tg.nm 7) (It.rng1 (E.var 10))
              (ss
                [S.asg 13 (E.bin BOp.add (E.bin BOp.add (E.cint 2) (E.var 1)) (E.bin BOp.mul (E.var 7) (E.var 6))),
                  S.asg 14 (E.bin BOp.add (E.var 7) (E.cint 1)),
                  S.asg 15 (E.bi1 B1.int (E.bin BOp.mod ((E.var 8).ix (E.var 13)) (E.var 14))),
                  S.iff (T.v (E.cmp COp.ge (E.var 7) (E.bin BOp.sub (E.var 9) (E.cint 1))))
                    (ss
                      [S.asg 15 (E.bi1 B1.int (E.bin BOp.mod ((E.var 8).ix (E.var 13)) (E.var 9))),
                        S.asg 14
                          (E.bin BOp.mod
                            (E.bi1 B1.int
                              (E.bin BOp.add (E.bin BOp.add (E.var 15) (E.cint 1))
                                (E.bin BOp.mod ((E.var 8).ix (E.bin BOp.add (E.var 13) (E.cint 1)))
                                  (E.bin BOp.sub (E.var 9) (E.cint 1)))))
                            (E.var 9))])
                    (ss []),
                  S.iff (T.v (E.cmp COp.eq ((E.var 8).ix (E.bin BOp.add (E.var 13) (E.cint 2))) (E.cint 1)))
                    (ss [S.par 15 14 (E.var 14) (E.var 15)]) (ss []),
                  S.asg 16
                    (E.call j__law_any_cycle [Md.va, Md.va, Md.va]
                      (es [E.var 8, E.bin BOp.add (E.var 13) (E.cint 4), E.var 3])),
                  S.iff (T.v (E.var 4))
                    (ss
                      [S.asg 16
                          (E.call j__law_odd_cycle [Md.va, Md.va, Md.va]
                            (es [E.var 8, E.bin BOp.add (E.var 13) (E.cint 4), E.var 3]))])
                    (ss []),
                  S.mu Mu.insert (LV.nm 12)
                    (es
                      [E.bi1 B1.int
                          (E.bin BOp.mod ((E.var 8).ix (E.bin BOp.add (E.var 13) (E.cint 3)))
                            (E.bin BOp.add (E.bi1 B1.len (E.var 12)) (E.cint 1))),
                        E.tup (es [(E.var 11).ix (E.var 15), (E.var 11).ix (E.var 14), E.var 16])])]),
            S.frz 12, S.ret (E.tup (es [E.var 9, E.var 12]))]) (finK [Md.va, Md.va, Md.va, Md.va, Md.va] R))
            (List.map (fun (i : Nat) => PV.int (i : Int)) (List.range (x0 + 1))) := by
          intro many hmy hmx hz
          have hR4 : R62 (many : Int) := ⟨by omega, by omega⟩
          refine for_range sp (x0 + 1) (fun k env => ∃ (names : List Nat) (x : Slot), env = [Slot.fz (.int c), .fz (.int (m : Nat)), .fz (.int (e : Nat)), .fz (.int (l : Nat)), .fz (.bl false), .fz (PV.lst (PV.int (m : Nat) :: PV.int ((e : Int) + 1) :: List.map nP rest)), .fz (.int (4 + (l : Int) + 1)), x, .fz (.lst (r.map nP)), .fz (.int (1 + (x0 : Int))), .fz (.int (many : Nat)), .ow (.lst (names.map nP)), .u, .u, .u, .u, .u] ∧ names.length = k ∧ names.Nodup ∧ ∀ x, x ∈ names ↔ x < k) ⟨[], x7, rfl, rfl, by simp, by simp⟩ ?_ ?_
          · rintro k env J hk ⟨names, x, rfl, nl, nn, nm⟩ hJ
            obtain ⟨x2, hx2⟩ := get_ex (xs := r) (k := 2 + k) (by omega)
            have i2 := ixl_i (f := nP) hx2 (show (2 : Int) + k = ((2 + k : Nat) : Int) by omega)
            have bx := big _ _ hx2
            have b1 : names.length < 16777216 := by omega
            simp [i2, b1, -ix_l]
            refine ⟨by omega, ?_⟩
            refine hJ _ ⟨names.take x2 ++ [k] ++ names.drop x2, .fz (.int (k : Nat)), ?_, ?_, ?_, ?_⟩
            · simp [List.map_take, List.map_drop]
            · rw [take_ins_len, nl]
            · exact take_ins_nd nn (by rw [nm]; omega)
            · intro x
              rw [take_ins_mem, nm]; omega
          · rintro env ⟨names, x, rfl, nl, nn, nm⟩
            simp [hR4, rangeL_0]
            refine for_range sp many (fun k env => ∃ (ds : List Dr) (x7 x13 x14 x15 x16 : Slot), env = [Slot.fz (.int c), .fz (.int (m : Nat)), .fz (.int (e : Nat)), .fz (.int (l : Nat)), .fz (.bl false), .fz (PV.lst (PV.int (m : Nat) :: PV.int ((e : Int) + 1) :: List.map nP rest)), .fz (.int (4 + (l : Int) + 1)), x7, .fz (.lst (r.map nP)), .fz (.int (1 + (x0 : Int))), .fz (.int (many : Nat)), .fz (.lst (names.map nP)), .ow (.lst (ds.map dP)), x13, x14, x15, x16] ∧ ds.length = k ∧ (∀ d ∈ ds, d.a < x0 + 1 ∧ d.b < x0 + 1 ∧ d.a ≠ d.b ∧ CyOk l d.c) ∧
              (∀ j, j < k → j + 1 < x0 + 1 → ∃ d ∈ ds, ∃ i x y, i ≤ j ∧ names[i]? = some x ∧ names[j + 1]? = some y ∧ ((d.a = x ∧ d.b = y) ∨ (d.a = y ∧ d.b = x)))) ⟨[], _, _, _, _, _, rfl, rfl, by simp, by simp⟩ ?_ ?_
            · rintro k env J hk ⟨ds, x7, x13, x14, x15, x16, rfl, dl, dk, dc⟩ hJ
              obtain ⟨A, hA⟩ : ∃ A : Nat, A = 2 + m + k * (5 + l) := ⟨_, rfl⟩
              have hA2 : (2 : Int) + m + k * (4 + (l : Int) + 1) = (A : Int) := by
                have : ((k * (5 + l) : Nat) : Int) = (k : Int) * (4 + (l : Int) + 1) := by
                  rw [Int.natCast_mul]; congr 1; omega
                rw [← this]; omega
              have hAl : A + (5 + l) ≤ r.length := by
                have : (k + 1) * (5 + l) ≤ n * (5 + l) := Nat.mul_le_mul_right _ (by omega)
                rw [Nat.succ_mul] at this
                omega
              obtain ⟨v0, hv0⟩ := get_ex (xs := r) (k := A) (by omega)
              obtain ⟨v1, hv1⟩ := get_ex (xs := r) (k := A + 1) (by omega)
              obtain ⟨v2, hv2⟩ := get_ex (xs := r) (k := A + 2) (by omega)
              obtain ⟨v3, hv3⟩ := get_ex (xs := r) (k := A + 3) (by omega)
              have j0 := ixl_i (f := nP) hv0 hA2
              have j1 := ixl_i (f := nP) hv1 (show (2 : Int) + m + k * (4 + (l : Int) + 1) + 1 = _ by rw [hA2]; rfl)
              have j2 := ixl_i (f := nP) hv2 (show (2 : Int) + m + k * (4 + (l : Int) + 1) + 2 = _ by rw [hA2]; rfl)
              have j3 := ixl_i (f := nP) hv3 (show (2 : Int) + m + k * (4 + (l : Int) + 1) + 3 = _ by rw [hA2]; rfl)
              have mo : MulOk (k : Int) (4 + (l : Int) + 1) := mulOk_l (by omega) (by omega)
              have p1 : (0 : Int) < (k : Int) + 1 := by omega
              have p2 : (0 : Int) < 1 + (x0 : Int) := by omega
              have lb : ds.length < 16777216 := by omega
              have leaf : ∀ (P15 P14 : Int) (a b : Nat), P15 = a → P14 = b → a < x0 + 1 → b < x0 + 1 → a ≠ b → (k < x0 → (a ≤ k ∧ b = k + 1) ∨ (b ≤ k ∧ a = k + 1)) →
                  sp j__law_any_cycle [OV.fz (PV.lst (List.map nP r)), OV.fz (PV.int (2 + (m : Int) + (k : Int) * (4 + (l : Int) + 1) + 4)), OV.fz (PV.int (l : Int))]
                  (cK fun p => ixR (PV.lst (List.map nP names)) (PV.int P15) fun p_1 => ixR (PV.lst (List.map nP names)) (PV.int P14) fun p_2 =>
                    rdF [mkS (E.call j__law_any_cycle [Md.va, Md.va, Md.va] (es [E.var 8, E.bin BOp.add (E.var 13) (E.cint 4), E.var 3])) p] 0 fun p_3 =>
                    (0 ≤ (v3 : Int) % ((ds.length : Int) + 1) ∧ (v3 : Int) % ((ds.length : Int) + 1) < 9223372036854775808) ∧
                      J [Slot.fz (PV.int c), Slot.fz (PV.int (m : Int)), Slot.fz (PV.int (e : Int)), Slot.fz (PV.int (l : Int)),
                        Slot.fz (PV.bl false), Slot.fz (PV.lst (PV.int (m : Int) :: PV.int ((e : Int) + 1) :: List.map nP rest)),
                        Slot.fz (PV.int (4 + (l : Int) + 1)), Slot.fz (PV.int (k : Int)), Slot.fz (PV.lst (List.map nP r)),
                        Slot.fz (PV.int (1 + (x0 : Int))), Slot.fz (PV.int (many : Int)), Slot.fz (PV.lst (List.map nP names)),
                        Slot.ow (OV.lst (List.take ((v3 : Int) % ((ds.length : Int) + 1)).toNat (List.map dP ds) ++
                              PV.tup [p_1, p_2, p_3] :: List.drop ((v3 : Int) % ((ds.length : Int) + 1)).toNat (List.map dP ds))),
                        Slot.fz (PV.int (2 + (m : Int) + (k : Int) * (4 + (l : Int) + 1))), Slot.fz (PV.int P14), Slot.fz (PV.int P15),
                        mkS (E.call j__law_any_cycle [Md.va, Md.va, Md.va] (es [E.var 8, E.bin BOp.add (E.var 13) (E.cint 4), E.var 3])) p]) := by
                intro P15 P14 a b ha hb ha1 hb1 hne hab
                subst ha hb
                rw [sp__law_any_cycle]
                refine ⟨r, A + 4, l, by rw [hA2]; rfl, ⟨l1, by omega, by omega⟩, ?_⟩
                intro cyc hcy
                obtain ⟨x, hx⟩ := get_ex (xs := names) (k := a) (by omega)
                obtain ⟨y, hy⟩ := get_ex (xs := names) (k := b) (by omega)
                have g1 := Int.emod_nonneg (v3 : Int) (b := (ds.length : Int) + 1) (by omega)
                have g2 := Int.emod_lt_of_pos (v3 : Int) (b := (ds.length : Int) + 1) (by omega)
                simp only [cK_e, ixl_lt hx, ixl_lt hy, mkS_s, rdF_0, nP_e]
                refine ⟨⟨g1, by omega⟩, ?_⟩
                generalize ((v3 : Int) % ((ds.length : Int) + 1)).toNat = i
                have hxn := (nm x).mp (mem_of_get hx)
                have hyn := (nm y).mp (mem_of_get hy)
                refine hJ _ ⟨ds.take i ++ [⟨x, y, cyc⟩] ++ ds.drop i, .fz (.int (k : Nat)), .fz (.int (2 + (m : Int) + (k : Int) * (4 + (l : Int) + 1))), .fz (.int (b : Nat)), .fz (.int (a : Nat)), .fz (.str cyc), ?_, ?_, ?_, ?_⟩
                · simp [List.map_take, List.map_drop, dP]
                · rw [take_ins_len, dl]
                · intro d hd
                  rw [take_ins_mem] at hd
                  rcases hd with hd | hd
                  · subst hd
                    refine ⟨hxn, hyn, ?_, hcy⟩
                    intro exy
                    simp only at exy
                    rw [exy] at hx
                    exact hne (nd_get nn hx hy)
                  · exact dk d hd
                · intro j hj hj2
                  by_cases cj : j < k
                  · obtain ⟨d, hd, q⟩ := dc j cj hj2
                    exact ⟨d, by rw [take_ins_mem]; exact .inr hd, q⟩
                  · have ej : j = k := by omega
                    subst ej
                    refine ⟨⟨x, y, cyc⟩, by rw [take_ins_mem]; exact .inl rfl, ?_⟩
                    rcases hab (by omega) with ⟨q1, q2⟩ | ⟨q1, q2⟩
                    · subst q2; exact ⟨a, x, y, q1, hx, hy, .inl ⟨rfl, rfl⟩⟩
                    · subst q2; exact ⟨b, y, x, q1, hy, hx, .inr ⟨rfl, rfl⟩⟩
              simp [j0, j1, j2, j3, mo, p1, p2, lb, -ix_l]
              by_cases ck : x0 ≤ k
              · rw [if_pos (by omega)]
                have xp : 0 < x0 := by
                  rcases Nat.eq_zero_or_pos x0 with h | h
                  · have := hz h; omega
                  · exact h
                refine ⟨by omega, ?_⟩
                have g1 := Int.emod_nonneg (v0 : Int) (b := 1 + (x0 : Int)) (by omega)
                have g2 := Int.emod_lt_of_pos (v0 : Int) (b := 1 + (x0 : Int)) (by omega)
                have g3 := Int.emod_nonneg (v1 : Int) (b := 1 + (x0 : Int) - 1) (by omega)
                have g4 := Int.emod_lt_of_pos (v1 : Int) (b := 1 + (x0 : Int) - 1) (by omega)
                generalize (v0 : Int) % (1 + (x0 : Int)) = a0 at g1 g2 ⊢
                generalize (v1 : Int) % (1 + (x0 : Int) - 1) = b0 at g3 g4 ⊢
                obtain ⟨a, rfl⟩ := Int.eq_ofNat_of_zero_le g1
                obtain ⟨t, rfl⟩ := Int.eq_ofNat_of_zero_le g3
                have g5 : ∃ b : Nat, ((a : Int) + 1 + t) % (1 + (x0 : Int)) = (b : Int) ∧ b < x0 + 1 ∧ b ≠ a := by
                  by_cases cc : (a : Int) + 1 + t < 1 + (x0 : Int)
                  · exact ⟨a + 1 + t, by rw [Int.emod_eq_of_lt (by omega) cc]; omega, by omega, by omega⟩
                  · refine ⟨a + 1 + t - (x0 + 1), ?_, by omega, by omega⟩
                    rw [← Int.sub_emod_right, Int.emod_eq_of_lt (by omega) (by omega)]; omega
                obtain ⟨b, hb1, hb2, hb3⟩ := g5
                rw [hb1]
                split
                · exact leaf _ _ b a rfl rfl hb2 (by omega) hb3 (fun h => by omega)
                · exact leaf _ _ a b rfl rfl (by omega) hb2 (fun h => hb3 h.symm) (fun h => by omega)
              · rw [if_neg (by omega)]
                have g1 := Int.emod_nonneg (v0 : Int) (b := (k : Int) + 1) (by omega)
                have g2 := Int.emod_lt_of_pos (v0 : Int) (b := (k : Int) + 1) (by omega)
                generalize (v0 : Int) % ((k : Int) + 1) = a0 at g1 g2 ⊢
                obtain ⟨a, rfl⟩ := Int.eq_ofNat_of_zero_le g1
                split
                · exact leaf _ _ (k + 1) a rfl rfl (by omega) (by omega) (by omega) (fun h => .inr ⟨by omega, rfl⟩)
                · exact leaf _ _ a (k + 1) rfl rfl (by omega) (by omega) (by omega) (fun h => .inl ⟨by omega, rfl⟩)
            · rintro env ⟨ds, x7, x13, x14, x15, x16, rfl, dl, dk, dc⟩
              simp
              have := hr (x0 + 1) ds (by omega) (by omega) (by omega) dk (Conn_of nl nm fun j hj => ?_)
              · rw [show (1 : Int) + (x0 : Int) = ((x0 + 1 : Nat) : Int) by omega]; exact this
              · by_cases c : j < many
                · exact dc j c hj
                · omega
        simp [i0, i1, e3, hR3, rangeL_0, -ix_l]
        by_cases c0 : x0 = 0
        · rw [if_pos (by omega)]
          exact rest_ 0 (by omega) (by omega) (fun _ => rfl)
        · rw [if_neg (by omega)]
          rw [show (1 : Int) + (x0 : Int) - 1 + (x1 : Int) = ((x0 + x1 : Nat) : Int) by omega]
          exact rest_ (x0 + x1) (by omega) (by omega) (fun h => absurd h c0)
end Lt
/-! P4: the defs that call no other, first part -/
namespace Lt
open Lh
theorem ev_is_index : ∀ ts R, s_is_index ts R → evD sp [.va, .va] 2 b_is_index ts R := by
  rintro ts R ⟨a, b, rfl, h⟩
  refine evD_of sp rfl rfl ?_
  simp [b_is_index]
  by_cases h1 : 0 ≤ a <;> simp [h1] at h ⊢ <;> exact h
theorem ev__is_trade : ∀ ts R, s__is_trade ts R → evD sp [.va, .va] 2 b__is_trade ts R := by
  rintro ts R ⟨h, t, rfl, hr⟩
  refine evD_of sp rfl rfl ?_
  simp [b__is_trade]
  by_cases h1 : t = 42
  · simp [h1] at hr ⊢; exact hr
  · simp [h1] at hr ⊢; exact hr
theorem ev_need_trade : ∀ ts R, s_need_trade ts R → evD sp [.va, .va] 2 b_need_trade ts R := by
  rintro ts R ⟨h, t, rfl, ht, hr⟩
  refine evD_of sp rfl rfl ?_
  simp [b_need_trade, ht]
  exact hr
theorem ev_need_no_masters : ∀ ts R, s_need_no_masters ts R → evD sp [.va] 2 b_need_no_masters ts R := by
  rintro ts R ⟨s, rfl, ht, hr⟩
  refine evD_of sp rfl rfl ?_
  simp [b_need_no_masters]
  refine for_map sp _ hP (fun _ e => ∃ x, e = [.fz (SP s), x]) ⟨_, rfl⟩ ?_ ?_
  · rintro k q e J hq ⟨x, rfl⟩ hJ
    have := ht q (List.mem_of_getElem? hq)
    simp [this]
    exact hJ _ ⟨_, rfl⟩
  · rintro e ⟨x, rfl⟩
    simp [hr]
theorem ev_lights_at : ∀ ts R, s_lights_at ts R → evD sp [.va, .va, .va] 6 b_lights_at ts R := by
  rintro ts R ⟨h, s, back, rfl, ⟨H, S⟩, hr⟩
  refine evD_of sp rfl rfl ?_
  simp [b_lights_at]
  rw [zw_eq]
  have m := H.many
  refine comp_map sp _ _ (fun q => lP (lightOf back q.2 q.1)) (by rw [List.length_zip]; omega) ?_ ?_
  · rintro ⟨p, d⟩ hq k hk
    obtain ⟨i, h1, h2⟩ := zip_mem hq
    have D := H.dr d (mem_of_get h2)
    have d1 := D.pos H.tr
    have d2 : d.c.length ≤ 16777216 := by have := D.len; omega
    simp [d1, d2]
    exact hk
  · rw [lights, List.map_map] at hr
    exact hr
theorem ev_rooms_of : ∀ ts R, s_rooms_of ts R → evD sp [.va, .va] 4 b_rooms_of ts R := by
  rintro ts R ⟨s, t, rfl, hl, hr⟩
  refine evD_of sp rfl rfl ?_
  simp [b_rooms_of]
  refine comp_flt sp s.hands hP (fun q => decide (q.1 = t)) (fun q => nP q.2) (by omega) ?_ ?_
  · rintro q hq k h1 h2
    simp
    by_cases h : q.1 = t
    · simp [h]; exact h1 (by simp [h])
    · simp [h]; exact h2 (by simp [h])
  · rw [roomsOf, List.map_map] at hr
    exact hr
theorem ev__law_cell : ∀ ts R, s__law_cell ts R → evD sp [.va, .va] 2 b__law_cell ts R := by
  rintro ts R ⟨ns, k, rfl, h0, hr⟩
  refine evD_of sp rfl rfl ?_
  simp [b__law_cell]
  split
  · rename_i h
    obtain ⟨n, rfl⟩ := Int.eq_ofNat_of_zero_le h0
    obtain ⟨x, hx⟩ := get_ex (xs := ns) (k := n) (by omega)
    have := lt_of_get hx
    simp [hx, this]
    exact hr _
  · exact hr 0
theorem ev__law_is_integer : ∀ ts R, s__law_is_integer ts R → evD sp [.va] 1 b__law_is_integer ts R := by
  rintro ts R ⟨i, rfl, hr⟩
  refine evD_of sp rfl rfl ?_
  simp [b__law_is_integer]
  exact hr
theorem ev__law_lights : ∀ ts R, s__law_lights ts R → evD sp [.va, .va, .va] 4 b__law_lights ts R := by
  rintro ts R ⟨h, s, back, rfl, ⟨H, S⟩, hr⟩
  refine evD_of sp rfl rfl ?_
  have m := H.many
  have hR : R62 (h.doors.length : Int) := ⟨by omega, by omega⟩
  simp [b__law_lights, hR, rangeL_0]
  refine comp_map sp (List.range h.doors.length) _ (fun k => lP ((lights h s back).getD k 0)) (by simp; omega) ?_ ?_
  · intro k hk kk hkk
    have hk : k < h.doors.length := by simpa using hk
    obtain ⟨d, hd⟩ := get_ex hk
    obtain ⟨p, hp⟩ := lenIs S.len.symm hd
    have D := H.dr d (mem_of_get hd)
    have d1 := D.pos H.tr
    have d2 : d.c.length ≤ 16777216 := by have := D.len; omega
    have e1 := @ixl_lt
    simp [ixl_lt hd, ixl_lt hp, d1, d2]
    have : (lights h s back).getD k 0 = lightOf back d p := by
      rw [List.getD_eq_getElem?_getD, lights, List.getElem?_map]
      have : (s.places.zip h.doors)[k]? = some (p, d) := by rw [List.getElem?_zip_eq_some]; exact ⟨hp, hd⟩
      rw [this]; rfl
    rw [this] at hkk
    exact hkk
  · have : (List.range h.doors.length).map (fun k => lP ((lights h s back).getD k 0)) = (lights h s back).map lP := by
      have hl : (lights h s back).length = h.doors.length := by rw [lights, List.length_map, List.length_zip, S.len]; omega
      refine List.ext_getElem (by simp [hl]) fun i h1 h2 => ?_
      simp only [List.getElem_map, List.getElem_range]
      have : i < (lights h s back).length := by simpa using h2
      rw [List.getD_eq_getElem?_getD, List.getElem?_eq_getElem this]; rfl
    rw [this]; exact hr
end Lt
/-! S2: runs -/
namespace Lt
open Lh
@[simp] theorem tup_pP {q : Nat × Nat} {Q : PV → Prop} : bi1R .tuple (pP q) Q = Q (pP q) := rfl
@[simp] theorem pP_0' {q : Nat × Nat} {Q : PV → Prop} : ixR (pP q) (.int 0) Q = Q (.int q.1) := ix0
@[simp] theorem pP_1' {q : Nat × Nat} {Q : PV → Prop} : ixR (pP q) (.int 1) Q = Q (.int q.2) := ix1
@[simp] theorem len_pP' {q : Nat × Nat} {Q : PV → Prop} : bi1R .len (pP q) Q = Q (.int 2) := rfl
@[simp] theorem isTy_pP' {q : Nat × Nat} : isTy (pP q) .tuple = true := rfl
@[simp] theorem tyOk_pP' {q : Nat × Nat} : tyOk (pP q) = true := rfl
@[simp] theorem mkS_pP' {q : Nat × Nat} {e} : mkS e (pP q) = .fz (pP q) := by unfold mkS; split <;> simp_all [pP]
@[simp] theorem mkS_RunP {ds} {e} : mkS e (RunP ds) = .fz (RunP ds) := by unfold mkS; split <;> simp_all [RunP]
theorem ev_Run_init : ∀ ts R, s_Run_init ts R → evD sp [.io, .va] 3 b_Run_init ts R := by
  rintro ts R ⟨ds, x, rfl, hx, hl, hr⟩
  refine evD_of sp rfl rfl ?_
  rcases hx with rfl | rfl
  · simp [b_Run_init]
    refine comp_map sp ds pP pP (by omega) ?_ ?_
    · intro q hq k hk
      simp
      exact hk
    · simp
      exact hr
  · simp [b_Run_init]
    refine comp_map sp ds pP pP (by omega) ?_ ?_
    · intro q hq k hk
      simp
      exact hk
    · simp
      exact hr
theorem ev__law_far : ∀ ts R, s__law_far ts R → evD sp [.va, .va] 2 b__law_far ts R := by
  rintro ts R ⟨ns, k, rfl, ⟨h0, h1⟩, hr⟩
  refine evD_of sp rfl rfl ?_
  have mo : MulOk 104729 (k + 1) := mulOk_r (by omega) (by omega)
  simp [b__law_far]
  split
  · rename_i h
    obtain ⟨n, rfl⟩ := Int.eq_ofNat_of_zero_le h0
    obtain ⟨x, hx⟩ := get_ex (xs := ns) (k := n) (by omega)
    have := lt_of_get hx
    simp [hx, this]
    exact hr _
  · rw [sp__law_cell]
    refine ⟨ns, 0, rfl, by decide, fun i => ?_⟩
    simp [mo]
    exact hr _
theorem enumL_map {α : Type} (f : α → PV) : ∀ (xs : List α) (n : Nat), enumL n (xs.map f) = (xs.zipIdx n).map fun q => .tup [.int (q.2 : Nat), f q.1]
  | [], _ => rfl
  | a :: xs, n => by
    simp [enumL, enumL_map f xs (n + 1)]
theorem zipIdx_get {α : Type} {xs : List α} {k : Nat} {q : α × Nat} (h : (xs.zipIdx)[k]? = some q) : xs[k]? = some q.1 := by
  rw [List.getElem?_zipIdx] at h
  cases e : xs[k]? with
  | none => rw [e] at h; cases h
  | some a => rw [e] at h; cases h; rfl
theorem okRun_at {h : Hs} : ∀ {ds : List (Nat × Nat)} {s : St} {k : Nat} {q : Nat × Nat}, okRun h s ds → ds[k]? = some q → mayB h (afterR h s (ds.take k)) q.1 q.2 = true
  | [], _, _, _, _, e => by cases e
  | d :: ds, s, 0, q, o, e => by cases e; exact o.1
  | d :: ds, s, k + 1, q, o, e => okRun_at (ds := ds) o.2 (by simpa using e)
theorem afterR_ok {h : Hs} (H : HsOk h) : ∀ {ds : List (Nat × Nat)} {s : St}, StOk h s → okRun h s ds → StOk h (afterR h s ds)
  | [], _, S, _ => S
  | d :: ds, s, S, o => afterR_ok H (ds := ds) (afterD_ok H S o.1) o.2
theorem okRun_take {h : Hs} : ∀ {ds : List (Nat × Nat)} {s : St} (k : Nat), okRun h s ds → okRun h s (ds.take k)
  | [], s, k, o => by rw [List.take_nil]; exact o
  | d :: ds, s, 0, o => trivial
  | d :: ds, s, k + 1, o => ⟨o.1, okRun_take k o.2⟩
theorem afterR_snoc (h : Hs) (s : St) (ds : List (Nat × Nat)) (q : Nat × Nat) : afterR h s (ds ++ [q]) = afterD h (afterR h s ds) q.1 q.2 := by
  simp [afterR]
theorem courseL_snoc (h : Hs) (q : Nat × Nat) : ∀ (ds : List (Nat × Nat)) (s : St), courseL h s (ds ++ [q]) = courseL h s ds ++ [afterR h s (ds ++ [q])]
  | [], s => rfl
  | d :: ds, s => by
    show s :: courseL h _ (ds ++ [q]) = s :: (courseL h _ ds ++ _)
    rw [courseL_snoc h q ds]; rfl
theorem courseL_len (h : Hs) : ∀ (ds : List (Nat × Nat)) (s : St), (courseL h s ds).length = ds.length + 1
  | [], s => rfl
  | d :: ds, s => by simp [courseL, courseL_len h ds]
theorem ev_replay : ∀ ts R, s_replay ts R → evD sp [.va, .va, .va] 8 b_replay ts R := by
  rintro ts R ⟨h, s, ds, rfl, ⟨H, S, o, hl⟩, hr⟩
  refine evD_of sp rfl rfl ?_
  simp [b_replay]
  rw [sp_need_fits]
  refine ⟨h, s, rfl, ⟨H, S⟩, ?_⟩
  simp [enumL_map]
  refine for_map sp ds.zipIdx _ (fun k e => ∃ x5 x6 x7, e = [.fz (HP h), .fz (SP s), .fz (RunP ds), .ow (.lst ((afterR h s (ds.take k)).hands.map hP)), .ow (.lst ((afterR h s (ds.take k)).places.map nP)), x5, x6, x7]) ⟨_, _, _, rfl⟩ ?_ ?_
  · rintro k ⟨⟨i, j⟩, n⟩ e J hq ⟨x5, x6, x7, rfl⟩ hJ
    have hq := zipIdx_get hq
    have hm := okRun_at o hq
    have S' := afterR_ok H S (okRun_take k o)
    have e2 := afterR_snoc h s (ds.take k) (i, j)
    rw [← take_snoc hq] at e2
    generalize afterR h s (ds.take k) = s' at hm S' e2 ⊢
    obtain ⟨q, d, p, hq', hd, hp, ho, _, ha⟩ := afterD_eq hm
    have D := H.dr d (mem_of_get hd)
    simp only at hq' hd hp ha e2
    rw [ha] at e2
    simp [pP]
    rw [sp__may_pass]
    refine ⟨h, s', i, j, _, _, rfl, .inr ⟨rfl, rfl⟩, ⟨H, S', lt_of_get hq', lt_of_get hd⟩, ?_⟩
    simp only at hm
    simp [hm]
    rw [sp__step]
    refine ⟨h, s'.hands, s'.places, i, j, q, d, p, rfl, ⟨hq', hd, hp, ho, D.pos H.tr, D.len⟩, ?_⟩
    simp [-List.map_set]
    rw [e2] at hJ
    exact hJ _ ⟨_, _, _, rfl⟩
  · rintro e ⟨x5, x6, x7, rfl⟩
    rw [List.length_zipIdx, List.take_length]
    have S' := afterR_ok H S o
    simp
    rw [sp_Standing_init]
    refine ⟨afterR h s ds, _, _, rfl, ⟨?_, ?_⟩, .inl rfl, .inl rfl, ?_⟩
    · have := S'.many; omega
    · have := S'.len; have := H.many; omega
    · simp
      exact hr
/-! ### the law's runs -/
theorem ev__law_possible : ∀ ts R, s__law_possible ts R → evD sp [.va, .va, .va] 6 b__law_possible ts R := by
  rintro ts R ⟨h, s, rfl, ⟨H, S⟩, hr⟩
  refine evD_of sp rfl rfl ?_
  have m1 := H.many
  have m2 := S.many
  have hR1 : R62 (s.hands.length : Int) := ⟨by omega, by omega⟩
  have hR2 : R62 (h.doors.length : Int) := ⟨by omega, by omega⟩
  simp [b__law_possible, hR1, rangeL_0]
  let row := fun i n => ((List.range n).filter (mayB h s i)).map fun j => (i, j)
  let acc := fun n => (List.range n).flatMap fun i => row i h.doors.length
  have lrow : ∀ i n, n ≤ h.doors.length → (row i n).length ≤ 1000 := by
    intro i n hn
    have := List.length_filter_le (mayB h s i) (List.range n)
    simp [row] at this ⊢
    omega
  have lacc : ∀ n, (acc n).length ≤ n * 1000 := by
    intro n
    induction n with
    | zero => simp [acc]
    | succ n ih =>
      have e : acc (n + 1) = acc n ++ row n h.doors.length := by simp [acc, List.range_succ, List.flatMap_append]
      have := lrow n _ (Nat.le_refl _)
      rw [e, List.length_append]
      omega
  refine for_range sp s.hands.length (fun k e => ∃ x4 x5, e = [.fz (.lst (h.doors.map dP)), .fz (.lst (s.hands.map hP)), .fz (.lst (s.places.map nP)), .ow (.lst ((acc k).map pP)), x4, x5]) ⟨_, _, rfl⟩ ?_ ?_
  · rintro k e J hk ⟨x4, x5, rfl⟩ hJ
    simp [hR2, rangeL_0]
    refine for_range sp h.doors.length (fun n e => ∃ x5, e = [.fz (.lst (h.doors.map dP)), .fz (.lst (s.hands.map hP)), .fz (.lst (s.places.map nP)), .ow (.lst ((acc k ++ row k n).map pP)), .fz (.int (k : Nat)), x5]) ⟨x5, by simp [row]⟩ ?_ ?_
    · rintro n e J' hn ⟨x5, rfl⟩ hJ'
      have l1 := lacc k
      have l2 := lrow k n (by omega)
      have e1 : row k (n + 1) = row k n ++ if mayB h s k n = true then [(k, n)] else [] := by
        simp only [row, List.range_succ, List.filter_append, List.map_append]
        congr 1
        cases c : mayB h s k n <;> simp [c]
      have l3 : (acc k).length + (row k n).length < 16777216 := by omega
      simp
      rw [sp__law_deed]
      refine ⟨h, s, k, n, rfl, ⟨H, S, hk, hn⟩, ?_⟩
      rw [e1] at hJ'
      cases c : mayB h s k n with
      | true =>
        rw [c] at hJ'
        simp [l3]
        have := hJ' _ ⟨.fz (.int (n : Nat)), rfl⟩
        simpa [pP] using this
      | false =>
        rw [c] at hJ'
        simp
        have := hJ' _ ⟨.fz (.int (n : Nat)), rfl⟩
        simpa using this
    · rintro e ⟨x5, rfl⟩
      have e : acc (k + 1) = acc k ++ row k h.doors.length := by simp [acc, List.range_succ, List.flatMap_append]
      rw [e] at hJ
      simp only [seqK_nx, evSs_ss0, loopK_nx]
      exact hJ _ ⟨_, _, rfl⟩
  · rintro e ⟨x4, x5, rfl⟩
    simp
    exact hr
end Lt
/-! S3: runs, lists of deeds, slices -/
namespace Lt
open Lh
section
variable {h : Hs} {s : St} {Q : PV → Prop}
@[simp] theorem sP_0 : ixR (sP s) (.int 0) Q = Q (.lst (s.hands.map hP)) := ix0
@[simp] theorem sP_1 : ixR (sP s) (.int 1) Q = Q (.lst (s.places.map nP)) := ix1
@[simp] theorem mkS_sP {e} : mkS e (sP s) = .fz (sP s) := by simp [sP]
end
theorem courseL_at (h : Hs) : ∀ {ds : List (Nat × Nat)} {s : St} {k : Nat}, k ≤ ds.length → (courseL h s ds)[k]? = some (afterR h s (ds.take k))
  | [], s, k, hk => by
    have : k = 0 := by simpa using hk
    subst this; rfl
  | d :: ds, s, 0, _ => rfl
  | d :: ds, s, k + 1, hk => by
    have := courseL_at h (ds := ds) (s := afterD h s d.1 d.2) (k := k) (by simpa using hk)
    simpa [courseL, afterR] using this
theorem courseL_take (h : Hs) (s : St) {ds : List (Nat × Nat)} {k : Nat} {q : Nat × Nat} (hq : ds[k]? = some q) : courseL h s (ds.take (k + 1)) = courseL h s (ds.take k) ++ [afterD h (afterR h s (ds.take k)) q.1 q.2] := by
  rw [take_snoc hq, courseL_snoc, afterR_snoc]
theorem ixl_m1 {α : Type} {f : α → PV} {xs : List α} {a : α} {Q : PV → Prop} (h : xs[xs.length - 1]? = some a) : ixR (.lst (xs.map f)) (.int (-1)) Q = Q (f a) := by
  have h1 := lt_of_get h
  have e : pyIx (xs.map f).length (-1) = some (xs.length - 1) := by
    rw [List.length_map, pyIx, if_neg (by decide), if_pos (by omega)]
    congr 1; omega
  rw [ix_l, e]
  refine propext ⟨fun ⟨k', p', hk, hp, q⟩ => ?_, fun q => ⟨_, f a, rfl, by rw [List.getElem?_map, h]; rfl, q⟩⟩
  cases hk
  rw [List.getElem?_map, h] at hp
  cases hp; exact q
theorem lst0 {x : PV} {l : List PV} {Q : PV → Prop} : ixR (.lst (x :: l)) (.int 0) Q = Q x := ixl_nat (n := 0) rfl
theorem lst1 {x y : PV} {l : List PV} {Q : PV → Prop} : ixR (.lst (x :: y :: l)) (.int 1) Q = Q y := ixl_nat (n := 1) rfl
section
variable {h h' : Hs} {s m : St}
theorem mayB_lt {i j : Nat} (hm : mayB h s i j = true) : i < s.hands.length ∧ j < h.doors.length := by
  obtain ⟨q, d, p, hq, hd, hp, _⟩ := afterD_eq hm
  exact ⟨lt_of_get hq, lt_of_get hd⟩
theorem afterD_len {i j : Nat} (l : s.places.length = h.doors.length) : (afterD h s i j).places.length = h.doors.length := by
  rw [afterD]; split
  · simpa using l
  · exact l
end
/-! deeds, compared -/
theorem eqPVs_pP : ∀ xs ys : List (Nat × Nat), eqPVs (xs.map pP) (ys.map pP) = decide (xs = ys)
  | [], [] => rfl
  | [], _ :: _ => by simp [eqPVs]
  | _ :: _, [] => by simp [eqPVs]
  | a :: xs, b :: ys => by
    obtain ⟨a1, a2⟩ := a
    obtain ⟨b1, b2⟩ := b
    simp only [List.map_cons, eqPVs, eqPVs_pP xs ys, pP, eqPV]
    rw [Bool.eq_iff_iff]
    simp
    intro _
    constructor
    · rintro ⟨h1, h2⟩; exact ⟨by omega, by omega⟩
    · rintro ⟨h1, h2⟩; exact ⟨by omega, by omega⟩
theorem eqPV_pP {p q : Nat × Nat} : eqPV (pP p) (pP q) = decide (p = q) := by
  have := eqPVs_pP [p] [q]
  simpa [eqPVs] using this
theorem ne_pPs {xs ys : List (Nat × Nat)} {Q : PV → Prop} : cmpR .ne (.lst (xs.map pP)) (.lst (ys.map pP)) Q = Q (.bl (decide (xs ≠ ys))) := by
  rw [cmp_ne]
  have e1 : okEq (.lst (xs.map pP)) (.lst (ys.map pP)) = true := by simp [okEq, dataB, data_pP]
  rw [e1, eqPV, eqPVs_pP]; simp
theorem ne_pPn {xs : List (Nat × Nat)} {Q : PV → Prop} : cmpR .ne (.lst (xs.map pP)) (.lst []) Q = Q (.bl (decide (xs ≠ []))) := ne_pPs (ys := [])
theorem inD_pP (q : Nat × Nat) (xs : List (Nat × Nat)) : inD (pP q) (.lst (xs.map pP)) = true := by
  simp [inD, dataB, data_pP]
  simp [pP, dataB, dataBs]
theorem any_pP (q : Nat × Nat) (xs : List (Nat × Nat)) : ((xs.map pP).any fun z => eqPV z (pP q)) = decide (q ∈ xs) := by
  rw [Bool.eq_iff_iff]
  simp only [List.any_map, List.any_eq_true, Function.comp, eqPV_pP, decide_eq_true_eq]
  constructor
  · rintro ⟨x, hx, rfl⟩; exact hx
  · intro h; exact ⟨q, h, rfl⟩
theorem in_pPs {q : Nat × Nat} {xs : List (Nat × Nat)} {Q : PV → Prop} : cmpR .inn (pP q) (.lst (xs.map pP)) Q = Q (.bl (decide (q ∈ xs))) := by
  rw [cmp_inD (inD_pP q xs), any_pP]
theorem ni_pPs {q : Nat × Nat} {xs : List (Nat × Nat)} {Q : PV → Prop} : cmpR .notin (pP q) (.lst (xs.map pP)) Q = Q (.bl (!decide (q ∈ xs))) := by
  rw [cmp_niD (inD_pP q xs), any_pP]
theorem cmp_len_eq {xs ys : List PV} {Q : PV → Prop} (h : xs.length ≠ ys.length) : cmpR .eq (.lst xs) (.lst ys) Q = Q (.bl false) := by
  rw [cmp_eq]
  have e : lenNe (.lst xs) (.lst ys) = true := by simpa [lenNe] using h
  obtain ⟨a, b, h1, h2, _, e2⟩ := lenNe_eq e
  rw [e2, okEq, e]; simp
theorem cutP_map {α β : Type} (f : α → β) (l : List α) (a b : Option Int) : cutP (l.map f) a b = (cutP l a b).map f := by
  simp [cutP, List.map_take, List.map_drop]
theorem cutP_mem {α : Type} {l : List α} {a b : Option Int} {x : α} (h : x ∈ cutP l a b) : x ∈ l :=
  List.mem_of_mem_drop (List.mem_of_mem_take h)
theorem cutP_len {α : Type} {l : List α} {a b : Option Int} : (cutP l a b).length ≤ l.length := by
  simp only [cutP, List.length_take, List.length_drop]; omega
theorem afterD_hl {h : Hs} {s : St} {i j : Nat} : (afterD h s i j).hands.length = s.hands.length := by
  rw [afterD]; split <;> simp
theorem afterR_hl {h : Hs} : ∀ {ds : List (Nat × Nat)} {s : St}, (afterR h s ds).hands.length = s.hands.length
  | [], s => rfl
  | q :: ds, s => by
    have := afterR_hl (h := h) (ds := ds) (s := afterD h s q.1 q.2)
    rw [afterD_hl] at this
    exact this
theorem okRun_mem {h : Hs} {ds : List (Nat × Nat)} {s : St} (o : okRun h s ds) {q : Nat × Nat} (hq : q ∈ ds) : q.1 < s.hands.length ∧ q.2 < h.doors.length := by
  obtain ⟨k, hk⟩ := List.getElem?_of_mem hq
  have := mayB_lt (okRun_at o hk)
  rw [afterR_hl] at this
  exact this
theorem afterR_m {h : Hs} {P : Nat → Prop} : ∀ {ds : List (Nat × Nat)} {s : St}, (∀ q ∈ s.hands, P q.1) → ∀ q ∈ (afterR h s ds).hands, P q.1
  | [], s, hp, q, hq => hp q hq
  | d :: ds, s, hp, q, hq => by
    refine afterR_m (h := h) (ds := ds) (s := afterD h s d.1 d.2) ?_ q hq
    intro q hq
    rw [afterD] at hq
    split at hq
    · rename_i x _ _ hx _ _
      rcases List.mem_or_eq_of_mem_set hq with e | e
      · exact hp q e
      · rw [e]; exact hp x (mem_of_get hx)
    · exact hp q hq
theorem okRun_pl {h : Hs} : ∀ {ds : List (Nat × Nat)} {s : St}, s.places.length = h.doors.length → (afterR h s ds).places.length = h.doors.length
  | [], s, l => l
  | q :: ds, s, l => okRun_pl (ds := ds) (s := afterD h s q.1 q.2) (afterD_len l)
end Lt
/-! P12: the plain law: a live standing with a door has a safe deed, growth keeps it live -/
namespace Lt
open Lh
def zOf (h : Hs) (s : St) : List (Nat × Dr) := (lights h s 0).zip h.doors
theorem zOf_get {h : Hs} {s : St} {k x : Nat} {d : Dr} : (zOf h s)[k]? = some (x, d) ↔ h.doors[k]? = some d ∧ ∃ p, s.places[k]? = some p ∧ x = lightOf 0 d p := by
  rw [zOf, List.getElem?_zip_eq_some, lights, List.getElem?_map]
  constructor
  · rintro ⟨h1, h2⟩
    refine ⟨h2, ?_⟩
    cases e : (s.places.zip h.doors)[k]? with
    | none => rw [e] at h1; cases h1
    | some q =>
      rw [e] at h1
      obtain ⟨e1, e2⟩ := zip_get e
      simp only at h2
      rw [h2] at e2
      cases e2
      cases h1
      exact ⟨q.1, e1, rfl⟩
  · rintro ⟨h1, p, h2, rfl⟩
    have : (s.places.zip h.doors)[k]? = some (p, d) := by rw [List.getElem?_zip_eq_some]; exact ⟨h2, h1⟩
    rw [this]
    exact ⟨rfl, h1⟩
theorem Pt.snoc {A : Nat → Nat → Prop} {k x y z} (p : Pt A k x y) (h : A y z) : Pt A (k + 1) x z := by
  induction p with
  | nil => exact .cons h .nil
  | cons a _ ih => exact .cons a (ih h)
theorem Pt.rev {A : Nat → Nat → Prop} (hA : ∀ {x y}, A x y → A y x) {k x y} (p : Pt A k x y) : Pt A k y x := by
  induction p with
  | nil => exact .nil
  | cons a _ ih => exact ih.snoc (hA a)
theorem Pt.mono {A B : Nat → Nat → Prop} (h : ∀ x y, A x y → B x y) {k x y} (p : Pt A k x y) : Pt B k x y := by
  induction p with
  | nil => exact .nil
  | cons a _ ih => exact .cons (h _ _ a) ih
theorem reach_mono {z z' : List (Nat × Dr)} {t : Nat} {rs rs' : List Nat} {i : Nat} (hz : ∀ q ∈ z, q.1 = t → q ∈ z') (hr : ∀ r ∈ rs, r ∈ rs') (h : reach z t rs i) : reach z' t rs' i := by
  obtain ⟨r, h1, k, p⟩ := h
  exact ⟨r, hr r h1, k, p.mono fun x y ⟨q, a, b, c⟩ => ⟨q, hz q a b, b, c⟩⟩
theorem mem_roomsOf {hs : List (Nat × Nat)} {t r : Nat} : r ∈ roomsOf hs t ↔ ∃ i : Nat, hs[i]? = some (t, r) := by
  simp only [roomsOf, List.mem_map, List.mem_filter, decide_eq_true_eq]
  constructor
  · rintro ⟨⟨a, b⟩, ⟨h1, h2⟩, h3⟩
    simp only at h2 h3
    subst h2 h3
    exact List.getElem?_of_mem h1
  · rintro ⟨i, h⟩
    exact ⟨(t, r), ⟨mem_of_get h, rfl⟩, rfl⟩
/-- the least number -/
theorem least {P : Nat → Prop} : ∀ k, P k → ∃ n, P n ∧ ∀ j, j < n → ¬ P j := by
  intro k
  induction k using Nat.strongRecOn with
  | ind k ih =>
    intro hk
    by_cases h : ∃ j, j < k ∧ P j
    · obtain ⟨j, h1, h2⟩ := h
      exact ih j h1 h2
    · exact ⟨k, hk, fun j hj hp => h ⟨j, hj, hp⟩⟩
theorem avoid {z z' : List (Nat × Dr)} {t j r m : Nat} {d : Dr} (hj : z[j]? = some (t, d)) (hr : r = d.a ∨ r = d.b) (hz : ∀ k q, k ≠ j → z[k]? = some q → z'[k]? = some q) :
    ∀ {k x}, Pt (Adj z t) k x m → (∀ k', k' ≤ k → ¬ Pt (Adj z t) k' r m) → Pt (Adj z' t) k x m := by
  intro k x p
  induction p with
  | nil => intro _; exact .nil
  | @cons k x y m a p ih =>
    intro hn
    obtain ⟨q, hq, h1, h2⟩ := a
    obtain ⟨j1, hj1⟩ := List.getElem?_of_mem hq
    have rest := ih fun k' hk' => hn k' (by omega)
    by_cases e : j1 = j
    · subst e
      rw [hj] at hj1
      cases hj1
      have both : r = x ∨ r = y := by
        rcases h2 with ⟨u, v⟩ | ⟨u, v⟩ <;> rcases hr with w | w
        · left; rw [w]; exact u
        · right; rw [w]; exact v
        · right; rw [w]; exact u
        · left; rw [w]; exact v
      rcases both with e | e
      · subst e
        exact absurd (Pt.cons ⟨_, mem_of_get hj, h1, h2⟩ p) (hn (k + 1) (Nat.le_refl _))
      · subst e
        exact absurd p (hn k (by omega))
    · exact .cons ⟨q, mem_of_get (hz j1 q e hj1), h1, h2⟩ rest
def Live (z : List (Nat × Dr)) (n t t' : Nat) (hs : List (Nat × Nat)) : Prop := ∃ m, m < n ∧ reach z t (roomsOf hs t) m ∧ reach z t' (roomsOf hs t') m
theorem shared_ne {h : Hs} {s : St} : shared h s 0 ≠ [] ↔ Live (zOf h s) h.rooms 82 66 s.hands := by
  constructor
  · intro hn
    obtain ⟨m, hm⟩ := List.exists_mem_of_ne_nil _ hn
    exact ⟨m, shared_in.mp hm⟩
  · rintro ⟨m, hm⟩ e
    have : m ∈ shared h s 0 := shared_in.mpr hm
    rw [e] at this; cases this
theorem Live.swap {z n t t' hs} (h : Live z n t t' hs) : Live z n t' t hs := by
  obtain ⟨m, a, b, c⟩ := h
  exact ⟨m, a, c, b⟩
/-- what a deed changes -/
structure Moved (h : Hs) (s : St) (i j t r : Nat) (d : Dr) (p : Nat) (s' : St) : Prop where
  hand : s.hands[i]? = some (t, r)
  door : h.doors[j]? = some d
  place : s.places[j]? = some p
  lit : t = lightOf 0 d p
  at_ : r = d.a ∨ r = d.b
  eq : s' = ⟨s.hands.set i (t, d.a + d.b - r), s.places.set j ((p + 1) % d.c.length)⟩
section
variable {h : Hs} {s s' : St} {i j t r : Nat} {d : Dr} {p : Nat}
theorem Moved.may (M : Moved h s i j t r d p s') : mayB h s i j = true := by
  rw [mayB, M.hand, M.door, M.place]
  simp [M.at_, ← M.lit]
theorem Moved.after (M : Moved h s i j t r d p s') : afterD h s i j = s' := by
  rw [afterD, M.hand, M.door, M.place, M.eq]
theorem Moved.z (M : Moved h s i j t r d p s') : (zOf h s)[j]? = some (t, d) := zOf_get.mpr ⟨M.door, p, M.place, M.lit⟩
theorem Moved.keep (M : Moved h s i j t r d p s') (k : Nat) (q : Nat × Dr) (hk : k ≠ j) (e : (zOf h s)[k]? = some q) : (zOf h s')[k]? = some q := by
  obtain ⟨x, d'⟩ := q
  rw [zOf_get] at e ⊢
  obtain ⟨e1, p', e2, e3⟩ := e
  refine ⟨e1, p', ?_, e3⟩
  rw [M.eq]
  simp only
  rw [List.getElem?_set_ne (fun e => hk e.symm)]
  exact e2
theorem Moved.z' (M : Moved h s i j t r d p s') : (zOf h s')[j]? = some (lightOf 0 d ((p + 1) % d.c.length), d) := by
  rw [zOf_get]
  refine ⟨M.door, _, ?_, rfl⟩
  rw [M.eq]
  simp [lt_of_get M.place]
theorem Moved.new (M : Moved h s i j t r d p s') : d.a + d.b - r ∈ roomsOf s'.hands t := by
  rw [mem_roomsOf]
  refine ⟨i, ?_⟩
  rw [M.eq]
  simp [lt_of_get M.hand]
theorem Moved.old (M : Moved h s i j t r d p s') {t' x : Nat} (ne : t ≠ t') (hx : x ∈ roomsOf s.hands t') : x ∈ roomsOf s'.hands t' := by
  rw [mem_roomsOf] at hx ⊢
  obtain ⟨i', e⟩ := hx
  refine ⟨i', ?_⟩
  rw [M.eq]
  simp only
  have : i ≠ i' := by
    rintro rfl
    rw [M.hand] at e
    cases e
    exact ne rfl
  rw [List.getElem?_set_ne this]
  exact e
theorem Moved.other (M : Moved h s i j t r d p s') {t' m : Nat} (ne : t ≠ t') (hm : reach (zOf h s) t' (roomsOf s.hands t') m) : reach (zOf h s') t' (roomsOf s'.hands t') m := by
  refine reach_mono ?_ (fun r hr => M.old ne hr) hm
  intro q hq e
  obtain ⟨k, hk⟩ := List.getElem?_of_mem hq
  by_cases c : k = j
  · subst c
    rw [M.z] at hk
    cases hk
    exact absurd e ne
  · exact mem_of_get (M.keep k q c hk)
end
/-- a hand on its way to the meeting goes on -/
theorem safe_way {h : Hs} {s : St} {n t t' m r k : Nat} (ne : t ≠ t') (hm : m < n) (hr : r ∈ roomsOf s.hands t) (pk : Pt (Adj (zOf h s) t) (k + 1) r m)
    (mn : ∀ j, j < k + 1 → ¬ Pt (Adj (zOf h s) t) j r m) (ho : reach (zOf h s) t' (roomsOf s.hands t') m) :
    ∃ i j, mayB h s i j = true ∧ Live (zOf h (afterD h s i j)) n t t' (afterD h s i j).hands := by
  obtain ⟨i, hi⟩ := mem_roomsOf.mp hr
  cases pk with
  | @cons _ _ y _ a p' =>
    obtain ⟨⟨x, d⟩, hq, e1, e2⟩ := a
    simp only at e1 e2
    subst e1
    obtain ⟨j, hj⟩ := List.getElem?_of_mem hq
    obtain ⟨g1, pl, g2, g3⟩ := zOf_get.mp hj
    have at_ : r = d.a ∨ r = d.b := by
      rcases e2 with ⟨u, v⟩ | ⟨u, v⟩
      · exact .inl u.symm
      · exact .inr v.symm
    have M : Moved h s i j x r d pl _ := ⟨hi, g1, g2, g3, at_, rfl⟩
    refine ⟨i, j, M.may, ?_⟩
    rw [M.after]
    have ey : d.a + d.b - r = y := by
      rcases e2 with ⟨u, v⟩ | ⟨u, v⟩ <;> omega
    refine ⟨m, hm, ⟨y, ?_, k, ?_⟩, M.other ne ho⟩
    · have := M.new
      rw [ey] at this
      rw [ey]
      exact this
    · have := avoid hj at_ M.keep p' fun k' hk' => mn k' (by omega)
      exact this.rev Adj.symm
theorem Good.safe {k : Nat} {h : Hs} {s : St} (G : Good k h s) (hd : h.doors ≠ []) : ∃ i j, mayB h s i j = true ∧ shared h (afterD h s i j) 0 ≠ [] := by
  obtain ⟨m, hm, ⟨r, hr, kr, pr⟩, ⟨b, hb, kb, pb⟩⟩ := shared_ne.mp G.live
  have pr := pr.rev Adj.symm
  have pb := pb.rev Adj.symm
  obtain ⟨kr, pr, mr⟩ := least (P := fun k => Pt (Adj (zOf h s) 82) k r m) kr pr
  obtain ⟨kb, pb, mb⟩ := least (P := fun k => Pt (Adj (zOf h s) 66) k b m) kb pb
  have rr : reach (zOf h s) 82 (roomsOf s.hands 82) m := ⟨r, hr, kr, pr.rev Adj.symm⟩
  have rb : reach (zOf h s) 66 (roomsOf s.hands 66) m := ⟨b, hb, kb, pb.rev Adj.symm⟩
  cases kr with
  | succ kr =>
    obtain ⟨i, j, h1, h2⟩ := safe_way (n := h.rooms) (by decide : (82 : Nat) ≠ 66) hm hr pr mr rb
    exact ⟨i, j, h1, shared_ne.mpr h2⟩
  | zero =>
    cases kb with
    | succ kb =>
      obtain ⟨i, j, h1, h2⟩ := safe_way (n := h.rooms) (by decide : (66 : Nat) ≠ 82) hm hb pb mb rr
      exact ⟨i, j, h1, shared_ne.mpr h2.swap⟩
    | zero =>
      cases pr
      cases pb
      -- both stand in m: any door of m
      have : ∃ d ∈ h.doors, m = d.a ∨ m = d.b := by
        apply Classical.byContradiction
        intro hno
        obtain ⟨d, hdm⟩ := List.exists_mem_of_ne_nil _ hd
        have D := G.hs.dr d hdm
        have := G.hs.conn (fun i => i = m) (fun d' hd' => ⟨fun e => absurd ⟨d', hd', .inl e.symm⟩ hno, fun e => absurd ⟨d', hd', .inr e.symm⟩ hno⟩) m d.a hm D.a rfl
        exact hno ⟨d, hdm, .inl this.symm⟩
      obtain ⟨d, hdm, hat⟩ := this
      obtain ⟨j, hj⟩ := List.getElem?_of_mem hdm
      obtain ⟨p, hp⟩ := lenIs G.st.len.symm hj
      have D := G.hs.dr d hdm
      have hlit : ∀ p, p < d.c.length → lightOf 0 d p = 82 ∨ lightOf 0 d p = 66 := by
        intro p hp
        obtain ⟨x, hx⟩ := get_ex hp
        rw [lightOf_0 hx]
        have := D.sub x (mem_of_get hx)
        rw [G.tr] at this
        simpa using this
      have hpl := G.st.pl j p d hp hj
      have key : ∀ t t' : Nat, t ≠ t' → (∀ p, p < d.c.length → lightOf 0 d p = t ∨ lightOf 0 d p = t') → lightOf 0 d p = t → m ∈ roomsOf s.hands t → m ∈ roomsOf s.hands t' → ∃ i j, mayB h s i j = true ∧ Live (zOf h (afterD h s i j)) h.rooms t t' (afterD h s i j).hands := by
        intro t t' ne hl e1 h1 h2
        obtain ⟨i, hi⟩ := mem_roomsOf.mp h1
        have M : Moved h s i j t m d p _ := ⟨hi, hj, hp, e1.symm, hat, rfl⟩
        refine ⟨i, j, M.may, ?_⟩
        rw [M.after]
        have zz := mem_of_get M.z'
        have nn := M.new
        have oo := M.old ne h2
        have ends : ∀ x, x = lightOf 0 d ((p + 1) % d.c.length) → Adj (zOf h _) x m (d.a + d.b - m) := fun x e => ⟨_, zz, e.symm, by
          simp only
          rcases hat with a | a
          · left; omega
          · right; omega⟩
        have lt2 : d.a + d.b - m < h.rooms := by
          have := D.a
          have := D.b
          omega
        rcases hl _ (Nat.mod_lt (p + 1) (Nat.lt_of_le_of_lt (Nat.zero_le _) hpl)) with e | e
        · exact ⟨m, hm, reach_adj (ends t e.symm) (reach_in nn), reach_in oo⟩
        · exact ⟨_, lt2, reach_in nn, reach_adj (ends t' e.symm).symm (reach_in oo)⟩
      rcases hlit p hpl with e | e
      · obtain ⟨i, j, h1, h2⟩ := key 82 66 (by decide) hlit e hr hb
        exact ⟨i, j, h1, shared_ne.mpr h2⟩
      · obtain ⟨i, j, h1, h2⟩ := key 66 82 (by decide) (fun p hp => (hlit p hp).symm) e hb hr
        exact ⟨i, j, h1, shared_ne.mpr h2.swap⟩
end Lt
/-! T1: small defs -/
namespace Lt
open Lh
theorem ev__need_fits : ∀ ts R, s__need_fits ts R → evD sp [.va, .va] 2 b__need_fits ts R := by
  rintro ts R ⟨h, s, rfl, ⟨H, S⟩, hr⟩
  refine evD_of sp rfl rfl ?_
  simp [b__need_fits]
  rw [sp_fits]
  refine ⟨h, s, rfl, ⟨H, S⟩, ?_⟩
  simp
  exact hr
theorem lights_len {h : Hs} {s : St} {b : Int} (S : StOk h s) : (lights h s b).length = h.doors.length := by
  rw [lights, List.length_map, List.length_zip, S.len]; omega
theorem ev__letter_of : ∀ ts R, s__letter_of ts R → evD sp [.va, .va, .va, .va] 4 b__letter_of ts R := by
  rintro ts R ⟨h, s, j, back, x, rfl, ⟨H, S, hx⟩, hr⟩
  refine evD_of sp rfl rfl ?_
  have hj := lt_of_get hx
  rw [lights_len S] at hj
  simp [b__letter_of, hj, -ix_l, -ix_t]
  rw [sp__need_fits]
  refine ⟨h, s, rfl, ⟨H, S⟩, ?_⟩
  simp [hj, -ix_l, -ix_t]
  rw [sp_lights_at]
  refine ⟨h, s, back, rfl, ⟨H, S⟩, ?_⟩
  simp [ixl_lt hx, -ix_l, -ix_t]
  exact hr
theorem ev_light_of : ∀ ts R, s_light_of ts R → evD sp [.va, .va, .va] 3 b_light_of ts R := by
  rintro ts R ⟨h, s, j, x, rfl, ⟨H, S, hx⟩, hr⟩
  refine evD_of sp rfl rfl ?_
  simp [b_light_of]
  rw [sp__letter_of]
  refine ⟨h, s, j, 0, x, rfl, ⟨H, S, hx⟩, ?_⟩
  simp
  exact hr
theorem ev_spread_of : ∀ ts R, s_spread_of ts R → evD sp [.va, .va, .va] 3 b_spread_of ts R := by
  rintro ts R ⟨h, s, t, rfl, ⟨H, S, tr, nm, ht⟩, hr⟩
  refine evD_of sp rfl rfl ?_
  have m := S.many
  simp [b_spread_of]
  rw [sp_need_fits]
  refine ⟨h, s, rfl, ⟨H, S⟩, ?_⟩
  simp
  rw [sp_need_trade]
  refine ⟨h, t, rfl, by rw [tr]; simpa using ht, ?_⟩
  simp
  rw [sp_need_two_trades]
  refine ⟨h, s, rfl, ⟨tr, nm⟩, ?_⟩
  simp
  rw [sp_lights_at]
  refine ⟨h, s, 0, rfl, ⟨H, S⟩, ?_⟩
  simp
  rw [sp_spread_over]
  refine ⟨h, s, lights h s 0, t, rfl, ⟨H, by omega⟩, ?_⟩
  simp
  exact hr
theorem eqPVs_dP : ∀ xs : List Dr, eqPVs (xs.map dP) (xs.map dP) = true
  | [] => rfl
  | d :: xs => by
    simp only [List.map_cons, eqPVs, eqPVs_dP xs, Bool.and_true]
    simp [dP, eqPV, eqPVs]
theorem data_dP {n : Nat} {d : Dr} (h : ∀ x ∈ d.c, x < 1114112) : dataB (n + 2) (dP d) = true := by
  simp [dP, dataB, dataBs]
  exact h
theorem datas_dP {n : Nat} : ∀ {xs : List Dr}, (∀ d ∈ xs, ∀ x ∈ d.c, x < 1114112) → dataBs (n + 2) (xs.map dP) = true
  | [], _ => rfl
  | d :: xs, h => by
    simp only [List.map_cons, dataBs, Bool.and_eq_true]
    exact ⟨data_dP (h d (by simp)), datas_dP fun d hd => h d (by simp [hd])⟩
theorem cmp_dPs {xs : List Dr} (h : ∀ d ∈ xs, ∀ x ∈ d.c, x < 1114112) {Q : PV → Prop} : cmpR .eq (.tup (xs.map dP)) (.tup (xs.map dP)) Q = Q (.bl true) := by
  rw [cmp_eq]
  have e1 : okEq (.tup (xs.map dP)) (.tup (xs.map dP)) = true := by
    have := datas_dP (n := 5) h
    simp [okEq, dataB, this]
  rw [e1, eqPV, eqPVs_dP]; simp
theorem ev__law_is_house : ∀ ts R, s__law_is_house ts R → evD sp [.va, .va, .va] 3 b__law_is_house ts R := by
  rintro ts R ⟨h, rfl, ⟨tr, H⟩, hr⟩
  refine evD_of sp rfl rfl ?_
  have lt : ∀ d ∈ h.doors, ∀ x ∈ d.c, x < 1114112 := by
    intro d hd x hx
    have := H.tr.cap x ((H.dr d hd).sub x hx)
    omega
  simp [b__law_is_house, cmp_dPs lt, tr]
  exact hr
theorem zO_eq {h : Hs} {s : St} : zO h s = zOf h s := rfl
theorem mem_spr {h : Hs} {s : St} {t i : Nat} : i ∈ spr h s t ↔ i < h.rooms ∧ reach (zOf h s) t (roomsOf s.hands t) i := by
  simp [spr, reachB_t, zO_eq]
theorem spr_len {h : Hs} {s : St} {t : Nat} : (spr h s t).length ≤ h.rooms := by
  have := List.length_filter_le (reachB (zO h s) t (roomsOf s.hands t)) (List.range h.rooms)
  simpa [spr] using this
theorem spr_lt {h : Hs} {s : St} {t i : Nat} (hi : i ∈ spr h s t) : i < h.rooms := (mem_spr.mp hi).1
theorem ev__law_reached : ∀ ts R, s__law_reached ts R → evD sp [.va, .va, .va, .va, .va] 7 b__law_reached ts R := by
  rintro ts R ⟨h, s, t, rfl, ⟨H, S⟩, hr⟩
  refine evD_of sp rfl rfl ?_
  have m := H.most
  have hR : R62 (h.rooms : Int) := ⟨by omega, by omega⟩
  simp [b__law_reached]
  rw [sp__law_lights]
  refine ⟨h, s, 0, rfl, ⟨H, S⟩, ?_⟩
  simp
  rw [sp__law_spread]
  refine ⟨h, s.hands, lights h s 0, t, rfl, ⟨H, lights_len S, S.rm⟩, ?_⟩
  simp [hR, rangeL_0, -ix_l, -List.map_map]
  refine comp_flt sp (List.range h.rooms) _ (reachB (zO h s) t (roomsOf s.hands t)) nP (by simp; omega) ?_ ?_
  · intro i hi k k1 k2
    have hi' : i < h.rooms := by simpa using hi
    have hg : ((List.range h.rooms).map (reachB (zO h s) t (roomsOf s.hands t)))[i]? = some (reachB (zO h s) t (roomsOf s.hands t) i) := get_rm _ _ _ hi'
    have ig := fun Q => ixl_lt (f := bP) (Q := Q) hg
    simp only [zO] at ig
    simp [ig, -ix_l, -List.map_map]
    split
    · rename_i e
      exact k1 e
    · rename_i e
      exact k2 (by simpa [zO] using e)
  · exact hr
theorem ev__law_lit : ∀ ts R, s__law_lit ts R → evD sp [.va, .va, .va, .va] 7 b__law_lit ts R := by
  rintro ts R ⟨h, s, rfl, ⟨H, S⟩, hr⟩
  refine evD_of sp rfl rfl ?_
  have m := H.many
  have hR : R62 (h.doors.length : Int) := ⟨by omega, by omega⟩
  simp [b__law_lit]
  rw [sp__law_lights]
  refine ⟨h, s, 0, rfl, ⟨H, S⟩, ?_⟩
  simp [hR, rangeL_0, -ix_l]
  refine for_range sp h.doors.length (fun _ e => ∃ x5 x6, e = [.fz (HP h), .fz (SP s), .fz (.lst (h.doors.map dP)), .fz (.lst (s.places.map nP)), .fz (.lst ((lights h s 0).map lP)), x5, x6]) ⟨_, _, rfl⟩ ?_ ?_
  · rintro k e J hk ⟨x5, x6, rfl⟩ hJ
    obtain ⟨x, hx⟩ := get_ex (xs := lights h s 0) (k := k) (by rw [lights_len S]; exact hk)
    simp [-ix_l]
    rw [sp_light_of]
    refine ⟨h, s, k, x, rfl, ⟨H, S, hx⟩, ?_⟩
    simp [ixl_lt hx, cmp_ne, okEq, scalP, eqPV, -ix_l]
    exact hJ _ ⟨_, _, rfl⟩
  · rintro e ⟨x5, x6, rfl⟩
    simp
    exact hr
theorem cmp_nPs_ne {ns : List Nat} {Q : PV → Prop} : cmpR .ne (.lst (ns.map nP)) (.lst (ns.map nP)) Q = Q (.bl false) := by
  rw [cmp_ne]
  have e2 : eqPV (.lst (ns.map nP)) (.lst (ns.map nP)) = true := by
    rw [eqPV]
    induction ns with
    | nil => rfl
    | cons a l ih => simp only [List.map_cons, eqPVs, ih, Bool.and_true]; simp [eqPV]
  have e1 : okEq (.lst (ns.map nP)) (.lst (ns.map nP)) = true := by simp [okEq, dataB, data_nP]
  rw [e1, e2]; simp
theorem cmp_nilnil {Q : PV → Prop} : cmpR .eq (.lst []) (.lst []) Q = Q (.bl true) := by
  rw [cmp_eq]; simp [okEq, dataB, dataBs, eqPV, eqPVs]
theorem cmp_ne_nilnil {Q : PV → Prop} : cmpR .ne (.lst []) (.lst []) Q = Q (.bl false) := by
  rw [cmp_ne]; simp [okEq, dataB, dataBs, eqPV, eqPVs]
theorem niNats {t : Nat} {rs : List Nat} {Q : PV → Prop} : cmpR .notin (.int (t : Int)) (.lst (rs.map nP)) Q = Q (.bl (!decide (t ∈ rs))) := by
  have h := inNats (t := t) (rs := rs) (Q := fun p => Q (match p with | .bl b => .bl (!b) | p => p))
  have e : ∀ Q : PV → Prop, cmpR .notin (.int (t : Int)) (.lst (rs.map nP)) Q = cmpR .inn (.int (t : Int)) (.lst (rs.map nP)) (fun p => Q (match p with | .bl b => .bl (!b) | p => p)) := by
    intro Q; rfl
  rw [e, h]
theorem ev__law_fewer : ∀ ts R, s__law_fewer ts R → evD sp [.va, .va, .va] 4 b__law_fewer ts R := by
  rintro ts R ⟨r, b, r', b', m, rfl, ⟨⟨l1, l2, l3, l4⟩, hm⟩, hr⟩
  refine evD_of sp rfl rfl ?_
  have l0 : ∀ {x : PV} {l : List PV} {Q : PV → Prop}, ixR (.lst (x :: l)) (.int 0) Q = Q x := fun {x l Q} => ixl_nat (n := 0) rfl
  have l1' : ∀ {x y : PV} {l : List PV} {Q : PV → Prop}, ixR (.lst (x :: y :: l)) (.int 1) Q = Q y := fun {x y l Q} => ixl_nat (n := 1) rfl
  have fin : ∀ (xs ys : List Nat), xs.length ≤ 1000 → (∀ x ∈ xs, x ∈ ys) → ∀ (env : Env) (Q : PV → Prop), Q (.lst []) → rdF env 3 (fun _ => True) ∨ True := fun _ _ _ _ _ _ _ => .inr trivial
  rcases hm with ⟨rfl, rfl, hs⟩ | ⟨rfl, rfl, hs⟩
  · simp [b__law_fewer, l0, l1', cmp_nPs_ne, -ix_l]
    refine comp_flt sp r' nP (fun x => !decide (x ∈ r)) nP (by omega) ?_ ?_
    · intro x hx k k1 k2
      have := hs x hx
      simp [l0, l1', niNats, this, -ix_l]
      exact k2 (by simp [this])
    · have e : (r'.filter fun x => !decide (x ∈ r)) = [] := by
        rw [List.filter_eq_nil_iff]
        intro x hx
        simp [hs x hx]
      rw [e]
      simp [cmp_nilnil]
      exact hr
  · simp [b__law_fewer, l0, l1', cmp_nPs_ne, -ix_l]
    refine comp_flt sp b' nP (fun x => !decide (x ∈ b)) nP (by omega) ?_ ?_
    · intro x hx k k1 k2
      have := hs x hx
      simp [l0, l1', niNats, this, -ix_l]
      exact k2 (by simp [this])
    · have e : (b'.filter fun x => !decide (x ∈ b)) = [] := by
        rw [List.filter_eq_nil_iff]
        intro x hx
        simp [hs x hx]
      rw [e]
      simp [cmp_nilnil]
      exact hr
end Lt
/-! T2: rows, ends, marks -/
namespace Lt
open Lh
theorem ev__law_row : ∀ ts R, s__law_row ts R → evDO sp [.va, .va] 6 b__law_row ts R := by
  rintro ts R ⟨c, ns, rfl, ⟨hl, hn⟩, hr⟩
  refine evDO_of sp rfl rfl ?_
  have hR : R62 (ns.length : Int) := ⟨by omega, by omega⟩
  simp [b__law_row, hR, rangeL_0]
  refine for_range sp ns.length (fun k e => ∃ (r : List Nat) (m : Int) (x y : Slot), e = [.fz (.int c), .fz (.lst (ns.map nP)), .ow (.lst (r.map nP)), .fz (.int m), x, y] ∧ r.length = k ∧ ∀ (k x n : Nat), r[k]? = some x → ns[k]? = some n → x < n) ⟨[], _, _, _, rfl, rfl, by simp⟩ ?_ ?_
  · rintro k e J hk ⟨r, m, x, y, rfl, hrl, hb⟩ hJ
    obtain ⟨n, hn'⟩ := get_ex hk
    have hpos := hn n (mem_of_get hn')
    have hp1 : (0 : Int) < n := by omega
    have hp2 : (n : Int) < 1073741824 := by omega
    have hp3 : r.length < 16777216 := by omega
    have hp4 : 0 < n := by omega
    have hp5 : n < 1073741824 := by omega
    have key : ∀ (z m' : Int) (x y : Slot), J [.fz (.int c), .fz (.lst (ns.map nP)), .ow (.lst (r.map nP ++ [.int (z % n)])), .fz (.int m'), x, y] := by
      intro z m' x y
      have g1 := Int.emod_nonneg z (b := (n : Int)) (by omega)
      have g2 := Int.emod_lt_of_pos z (b := (n : Int)) (by omega)
      refine hJ _ ⟨r ++ [(z % n).toNat], m', x, y, ?_, by simp [hrl], ?_⟩
      · have : ((z % n).toNat : Int) = z % n := by omega
        simp [this]
      · intro k' x' n' e1 e2
        by_cases hk' : k' < r.length
        · rw [List.getElem?_append_left hk'] at e1
          exact hb k' x' n' e1 e2
        · have h4 := lt_of_get e1
          rw [List.length_append, List.length_singleton] at h4
          have : k' = k := by omega
          subst this
          rw [List.getElem?_append_right (by omega)] at e1
          rw [hrl, Nat.sub_self] at e1
          cases e1
          rw [hn'] at e2
          cases e2
          omega
    have kk : (k : Int) < 10000 := by omega
    have k0 : (0 : Int) ≤ k := by omega
    simp [ixl_lt hn', hp1, hp2, hp3, hp4, hp5, -ix_l]
    split
    · exact key _ _ _ _
    · have a1 : MulOk 7919 (k : Int) := mulOk_l (by decide) (by decide)
      have a2 : MulOk 31 (k : Int) := mulOk_l (by decide) (by decide)
      have a3 : ∀ z w : Int, MulOk (z % 2147483647) w := fun z w => mulOk_b (by omega) (by omega)
      have a4 : ∀ z w : Int, MulOk (z % 2147483629) w := fun z w => mulOk_b (by omega) (by omega)
      simp [ixl_lt hn', hp1, hp2, hp3, hp4, hp5, a1, a2, a3, a4, -ix_l]
      exact key _ _ _ _
  · rintro e ⟨r, m, x, y, rfl, hrl, hb⟩
    simp
    exact hr r hrl hb

/-- the parts of the rooms -/
def partOf (a b i : Nat) : Nat := if i < a then 0 else if i < b then 2 else 1
def partsL (a b n : Nat) : List Nat := List.replicate a 0 ++ List.replicate (b - a) 2 ++ List.replicate (n - b) 1
theorem parts_at {a b n i : Nat} (h1 : a < b) (h2 : b < n) (hi : i < n) : (partsL a b n)[i]? = some (partOf a b i) := by
  simp only [partsL, partOf]
  split
  · rw [List.append_assoc, List.getElem?_append_left (by simpa), List.getElem?_replicate, if_pos (by assumption)]
  · rw [List.append_assoc, List.getElem?_append_right (by simp; omega)]
    split
    · rw [List.getElem?_append_left (by simp; omega), List.getElem?_replicate, if_pos (by simp; omega)]
    · rw [List.getElem?_append_right (by simp; omega), List.getElem?_replicate, if_pos (by simp; omega)]
theorem range_from (a b : Nat) : rangeL (a : Int) ((b : Int) - a).toNat = ((List.range (b - a)).map (· + a)).map nP := by
  rw [rangeL, List.map_map, show ((b : Int) - a).toNat = b - a by omega]
  refine List.map_congr_left fun i _ => ?_
  simp [nP]; omega
theorem range_from' (a b : Nat) : rangeL (a : Int) (b - a) = ((List.range (b - a)).map (· + a)).map nP := by
  rw [← range_from, show ((b : Int) - a).toNat = b - a by omega]
theorem ev__law_ends : ∀ ts R, s__law_ends ts R → evD sp [.va, .va, .va, .va, .va, .va] 9 b__law_ends ts R := by
  rintro ts R ⟨k, a, b, n, p, rfl, ⟨k1, a1, ab, bn, n1, k2⟩, hr⟩
  refine evD_of sp rfl rfl ?_
  have hR : R62 (n : Int) := ⟨by omega, by omega⟩
  rw [show List.replicate a 0 ++ List.replicate (b - a) 2 ++ List.replicate (n - b) 1 = partsL a b n from rfl]
  have r0 : ∀ m : Nat, (List.range m).map (fun (i : Nat) => PV.int (i : Int)) = (List.range m).map nP := fun m => rfl
  have rl : ∀ a b : Nat, (((List.range (b - a)).map (· + a)).map nP) = ((List.range (b - a)).map (· + a)).map nP := fun _ _ => rfl
  have ne_range : ∀ m : Nat, 0 < m → List.range m ≠ [] := by
    intro m hm e
    have := congrArg List.length e
    simp at this; omega
  have bd : ∀ m : Nat, m < 100 → (-16777216 ≤ (m : Int) ∧ (m : Int) ≤ 16777216) := fun m hm => by omega
  simp only [b__law_ends]
  by_cases c1 : k < a
  · simp [c1, rangeL_0]
    refine ⟨by omega, ?_⟩
    refine hr k (List.range k) (by omega) (ne_range k k1) (by simp; omega) ?_ ?_
    · intro o ho
      simp at ho
      omega
    · intro _
      refine ⟨by rw [if_neg (by omega)], ?_⟩
      intro o ho
      simp at ho
      omega
  by_cases c2 : k = a
  · subst c2
    simp [range_from', -List.map_map]
    refine ⟨by omega, ?_⟩
    refine hr b ((List.range (b - k)).map (· + k)) bn (by simpa using ne_range (b - k) (by omega)) (by simp; omega) ?_ ?_
    · intro o ho
      simp at ho
      omega
    · intro _
      refine ⟨by rw [if_pos rfl], ?_⟩
      intro o ho
      simp at ho
      omega
  by_cases c3 : k < b
  · have e1 : ¬ ((k : Int) = a) := by omega
    simp [c1, c2, c3, e1, range_from', -List.map_map]
    refine ⟨by omega, ?_⟩
    refine hr k ((List.range (k - a)).map (· + a)) (by omega) (by simpa using ne_range (k - a) (by omega)) (by simp; omega) ?_ ?_
    · intro o ho
      simp at ho
      omega
    · intro _
      refine ⟨by rw [if_neg (by omega)], ?_⟩
      intro o ho
      simp at ho
      omega
  by_cases c4 : k = b
  · subst c4
    have e1 : ¬ ((k : Int) = a) := by omega
    simp [c1, c2, e1, rangeL_0]
    refine ⟨by omega, ?_⟩
    rw [r0]
    refine hr k (List.range a) (by omega) (ne_range a a1) (by simp; omega) ?_ ?_
    · intro o ho
      simp at ho
      omega
    · intro _
      refine ⟨by rw [if_neg (by omega)], ?_⟩
      intro o ho
      simp at ho
      omega
  have e1 : ¬ ((k : Int) = a) := by omega
  have e2 : ¬ ((k : Int) = b) := by omega
  by_cases c5 : k < n
  · simp [c1, c2, c3, c4, c5, e1, e2, rangeL_0]
    refine ⟨by omega, ?_⟩
    rw [r0]
    refine hr k (List.range k) (by omega) (ne_range k k1) (by simp; omega) ?_ ?_
    · intro o ho
      simp at ho
      omega
    · intro _
      refine ⟨by rw [if_neg (by omega)], ?_⟩
      intro o ho
      simp at ho
      omega
  obtain ⟨one, ho1, ho2⟩ : ∃ one : Nat, (p : Int) % (n : Int) = (one : Int) ∧ one < n := by
    have g1 := Int.emod_nonneg (p : Int) (b := (n : Int)) (by omega)
    have g2 := Int.emod_lt_of_pos (p : Int) (b := (n : Int)) (by omega)
    exact ⟨((p : Int) % (n : Int)).toNat, by omega, by omega⟩
  have n0 : 0 < n := by omega
  have po := parts_at ab bn ho2
  have ipo := fun Q => ixl_i (f := nP) (Q := Q) po (show (one : Int) = _ from rfl)
  let pr : Nat → Bool := fun i => decide (partOf a b i = partOf a b one) || (decide (partOf a b i = 1) || decide (partOf a b one = 1))
  simp [c1, c2, c3, c4, c5, e1, e2, n0, ho1, hR, rangeL_0, -ix_l]
  refine comp_flt sp (List.range n) _ pr nP (by simp; omega) ?_ ?_
  · intro i hi k q1 q2
    have hi' : i < n := by simpa using hi
    have ipi := fun Q => ixl_lt (f := nP) (Q := Q) (parts_at ab bn hi')
    have inp : ∀ (x y : Nat) (Q : PV → Prop), cmpR .inn (.int 1) (.lst [.int (x : Int), .int (y : Int)]) Q = Q (.bl (decide (x = 1) || decide (y = 1))) := by
      intro x y Q
      have := inNats (t := 1) (rs := [x, y]) (Q := Q)
      have e : (decide (1 ∈ [x, y])) = (decide (x = 1) || decide (y = 1)) := by
        rw [Bool.eq_iff_iff]; simp; constructor <;> (rintro (h | h) <;> simp [h])
      rw [e] at this
      exact this
    simp [ipi, ipo, inp, cmp_eq, okEq, scalP, eqPV, -ix_l]
    split
    · rename_i e
      have e' : partOf a b i = partOf a b one := by omega
      exact q1 (by simp [pr, e'])
    · rename_i e
      have e' : ¬ partOf a b i = partOf a b one := by omega
      by_cases z : partOf a b i = 1 ∨ partOf a b one = 1
      · have := q1 (by rcases z with z | z <;> simp [pr, z])
        rcases z with z | z <;> simp [z] <;> exact this
      · have z1 : ¬ partOf a b i = 1 := fun h => z (.inl h)
        have z2 : ¬ partOf a b one = 1 := fun h => z (.inr h)
        have := q2 (by simp [pr, e', z1, z2])
        simp [z1, z2]
        exact this
  · simp [-ix_l]
    refine comp_flt sp ((List.range n).filter pr) nP (fun i => decide (i ≠ one)) nP (by have := List.length_filter_le pr (List.range n); simp at this; omega) ?_ ?_
    · intro i hi k q1 q2
      simp [cmp_ne, okEq, scalP, eqPV]
      split
      · rename_i e
        exact q2 (by simp; omega)
      · rename_i e
        exact q1 (by simp; omega)
    · refine hr one (((List.range n).filter pr).filter fun i => decide (i ≠ one)) ho2 ?_ ?_ ?_ ?_
      · -- b or 0 is there
        have : ∃ o, o ∈ (((List.range n).filter pr).filter fun i => decide (i ≠ one)) := by
          by_cases z : one = b
          · refine ⟨0, ?_⟩
            have q : partOf a b one = 1 := by simp only [partOf]; rw [if_neg (by omega), if_neg (by omega)]
            simp only [List.mem_filter, List.mem_range, decide_eq_true_eq, pr, Bool.or_eq_true]
            exact ⟨⟨by omega, .inr (.inr q)⟩, by omega⟩
          · refine ⟨b, ?_⟩
            have q : partOf a b b = 1 := by simp only [partOf]; rw [if_neg (by omega), if_neg (by omega)]
            simp only [List.mem_filter, List.mem_range, decide_eq_true_eq, pr, Bool.or_eq_true]
            exact ⟨⟨by omega, .inr (.inl q)⟩, fun e => z e.symm⟩
        obtain ⟨o, ho⟩ := this
        exact List.ne_nil_of_mem ho
      · have q1 := List.length_filter_le pr (List.range n)
        have q2 := List.length_filter_le (fun i => decide (i ≠ one)) ((List.range n).filter pr)
        simp only [List.length_range] at q1
        omega
      · intro o ho
        simp only [List.mem_filter, List.mem_range, decide_eq_true_eq, pr, Bool.or_eq_true] at ho
        obtain ⟨⟨h1, h2⟩, h3⟩ := ho
        refine ⟨h1, h3, ?_, ?_⟩
        · rintro ⟨u1, u2, u3⟩
          have w1 : partOf a b o = 2 := by simp only [partOf]; rw [if_neg (by omega), if_pos (by omega)]
          have w2 : partOf a b one = 0 := by simp only [partOf]; rw [if_pos (by omega)]
          rw [w1, w2] at h2
          omega
        · rintro ⟨u1, u2, u3⟩
          have w1 : partOf a b one = 2 := by simp only [partOf]; rw [if_neg (by omega), if_pos (by omega)]
          have w2 : partOf a b o = 0 := by simp only [partOf]; rw [if_pos (by omega)]
          rw [w1, w2] at h2
          omega
      · intro h; omega
end Lt
/-! T3: the house of two parts -/
namespace Lt
open Lh
def t4__law_two_parts : List S := (.frz 12) :: (.ret (.tup (es [.var 9, .var 12, .var 13]))) :: []
def t3__law_two_parts : List S := (.frz 12) :: (.asg 13 (.bin .mul (.lst (es [.cint 1])) (.var 9))) :: (.for_ (.nm 5) (.rng1 (.var 9)) (ss [.setix (.nm 13) (.ix (.var 11) (.var 5)) (.ix (.var 10) (.var 5))])) :: (.frz 13) :: t4__law_two_parts
def t2__law_two_parts : List S := (.for_ (.nm 5) (.rng1 (.var 9)) (ss [.mu .insert (.nm 11) (es [.bin .mod (.bi1 .int (.ix (.var 6) (.bin .add (.cint 4) (.var 5)))) (.bin .add (.var 5) (.cint 1)), .var 5])])) :: (.frz 11) :: (.asg 12 (.lst (es []))) :: (.for_ (.nm 5) (.rng2 (.cint 1) (.bin .add (.var 9) (.ix (.var 6) (.cint 3)))) (ss [.asg 14 (.bin .add (.cint 12) (.bin .mul (.bin .sub (.var 5) (.cint 1)) (.var 3))), .tgt (.tp [.nm 17, .nm 18]) (.call j__law_ends [.va, .va, .va, .va, .va, .va] (es [.var 5, .var 7, .var 8, .var 9, .var 10, .ix (.var 6) (.bin .add (.var 14) (.cint 1))])), .asg 15 (.lst (es [.ix (.var 11) (.var 17), .ix (.var 11) (.ix (.var 18) (.bin .mod (.bi1 .int (.ix (.var 6) (.var 14))) (.bi1 .len (.var 18))))])), .frz 15, .asg 16 (.call j__law_any_cycle [.va, .va, .va] (es [.var 6, .bin .add (.var 14) (.cint 4), .var 2])), .mu .insert (.nm 12) (es [.bin .mod (.bi1 .int (.ix (.var 6) (.bin .add (.var 14) (.cint 3)))) (.bin .add (.bi1 .len (.var 12)) (.cint 1)), .tup (es [.ix (.var 15) (.ix (.var 6) (.bin .add (.var 14) (.cint 2))), .ix (.var 15) (.bin .sub (.cint 1) (.ix (.var 6) (.bin .add (.var 14) (.cint 2)))), .var 16])])])) :: t3__law_two_parts
def t1__law_two_parts : List S := (.asg 6 (.callO j__law_row [.va, .va] (es [.var 0, .var 4]))) :: (.frz 6) :: (.asg 7 (.bin .add (.cint 1) (.bin .fdiv (.bi1 .int (.bin .add (.ix (.var 6) (.cint 0)) (.cint 1))) (.cint 2)))) :: (.asg 8 (.bin .add (.bin .add (.var 7) (.cint 1)) (.bin .fdiv (.bi1 .int (.bin .add (.ix (.var 6) (.cint 1)) (.cint 1))) (.cint 2)))) :: (.asg 9 (.bin .add (.bin .add (.var 8) (.cint 1)) (.ix (.var 6) (.cint 2)))) :: (.asg 10 (.bin .add (.bin .add (.bin .mul (.lst (es [.cint 0])) (.var 7)) (.bin .mul (.lst (es [.cint 2])) (.bin .sub (.var 8) (.var 7)))) (.bin .mul (.lst (es [.cint 1])) (.bin .sub (.var 9) (.var 8))))) :: (.frz 10) :: (.asg 11 (.lst (es []))) :: t2__law_two_parts
theorem b__law_two_parts_e : b__law_two_parts = ss ((.asg 3 (.bin .add (.cint 5) (.var 2))) :: (.asg 4 (.bin .add (.lst (es [.cint 5, .cint 5, .cint 2, .bin .add (.var 1) (.cint 1)])) (.bin .mul (.lst (es [.cint 60])) (.cint 8)))) :: (.frz 4) :: (.for_ (.nm 5) (.rng1 (.bin .add (.cint 7) (.var 1))) (ss [.asg 4 (.bin .add (.bin .add (.var 4) (.lst (es [.cint 60, .cint 60, .cint 2, .cint 60, .cint 60]))) (.bin .mul (.lst (es [.cint 2])) (.var 2))), .frz 4])) :: t1__law_two_parts) := rfl
/-- the link of the k-th door -/
def Lk (a b n k one o : Nat) : Prop := one = (if k = a then b else k) ∧ o < n ∧ (k < a → o < k) ∧ (k = a → a ≤ o ∧ o < b) ∧ (a < k → k < b → a ≤ o ∧ o < k) ∧ (k = b → o < a) ∧ (b < k → o < k)
theorem Conn_of2 {a b n : Nat} {names : List Nat} {ds : List Dr} (a1 : 1 ≤ a) (ab : a < b) (bn : b < n) (hl : names.length = n) (hm : ∀ x, x ∈ names ↔ x < n)
    (hd : ∀ k, 1 ≤ k → k < n → ∃ d ∈ ds, ∃ one o x y, Lk a b n k one o ∧ names[one]? = some x ∧ names[o]? = some y ∧ ((d.a = x ∧ d.b = y) ∨ (d.a = y ∧ d.b = x))) : Conn n ds := by
  intro S hS
  let f : Nat → Prop := fun k => ∀ x, names[k]? = some x → S x
  have get : ∀ k, k < n → ∃ x, names[k]? = some x := fun k hk => get_ex (by omega)
  have fS : ∀ k x, names[k]? = some x → (f k ↔ S x) := fun k x hx => ⟨fun h => h x hx, fun h y hy => by rw [hx] at hy; cases hy; exact h⟩
  have lk : ∀ k, 1 ≤ k → k < n → ∃ one o, Lk a b n k one o ∧ (f one ↔ f o) := by
    intro k k1 kn
    obtain ⟨d, hdm, one, o, x, y, L, e1, e2, e3⟩ := hd k k1 kn
    refine ⟨one, o, L, ?_⟩
    rw [fS one x e1, fS o y e2]
    have s := hS d hdm
    rcases e3 with ⟨u, v⟩ | ⟨u, v⟩
    · rw [u, v] at s; exact s
    · rw [u, v] at s; exact s.symm
  have red : ∀ k, k < a → (f k ↔ f 0) := by
    intro k
    induction k using Nat.strongRecOn with
    | ind k ih =>
      intro ka
      by_cases k0 : k = 0
      · rw [k0]
      · obtain ⟨one, o, L, e⟩ := lk k (by omega) (by omega)
        obtain ⟨l1, l2, l3, l4, l5, l6, l7⟩ := L
        rw [if_neg (by omega)] at l1
        subst l1
        exact e.trans (ih o (l3 ka) (by have := l3 ka; omega))
  have mid : f b ↔ f 0 := by
    obtain ⟨one, o, L, e⟩ := lk b (by omega) bn
    obtain ⟨l1, l2, l3, l4, l5, l6, l7⟩ := L
    rw [if_neg (by omega)] at l1
    subst l1
    exact e.trans (red o (l6 rfl))
  have blue : ∀ k, a ≤ k → k < b → (f k ↔ f a) := by
    intro k
    induction k using Nat.strongRecOn with
    | ind k ih =>
      intro ka kb
      by_cases k0 : k = a
      · rw [k0]
      · obtain ⟨one, o, L, e⟩ := lk k (by omega) (by omega)
        obtain ⟨l1, l2, l3, l4, l5, l6, l7⟩ := L
        rw [if_neg (by omega)] at l1
        subst l1
        have := l5 (by omega) kb
        exact e.trans (ih o this.2 this.1 (by omega))
  have a0 : f a ↔ f 0 := by
    obtain ⟨one, o, L, e⟩ := lk a a1 (by omega)
    obtain ⟨l1, l2, l3, l4, l5, l6, l7⟩ := L
    rw [if_pos rfl] at l1
    subst l1
    have := l4 rfl
    exact (blue o this.1 this.2).symm.trans (e.symm.trans mid)
  have all : ∀ k, k < n → (f k ↔ f 0) := by
    intro k
    induction k using Nat.strongRecOn with
    | ind k ih =>
      intro kn
      by_cases c1 : k < a
      · exact red k c1
      by_cases c2 : k < b
      · exact (blue k (by omega) c2).trans a0
      by_cases c3 : k = b
      · rw [c3]; exact mid
      · obtain ⟨one, o, L, e⟩ := lk k (by omega) kn
        obtain ⟨l1, l2, l3, l4, l5, l6, l7⟩ := L
        rw [if_neg (by omega)] at l1
        subst l1
        have := l7 (by omega)
        exact e.trans (ih o this (by omega))
  intro i j hi hj h
  obtain ⟨ki, hki⟩ := List.getElem?_of_mem ((hm i).mpr hi)
  obtain ⟨kj, hkj⟩ := List.getElem?_of_mem ((hm j).mpr hj)
  have q1 := all ki (by have := lt_of_get hki; omega)
  have q2 := all kj (by have := lt_of_get hkj; omega)
  rw [fS ki i hki] at q1
  rw [fS kj j hkj] at q2
  exact q2.mpr (q1.mp h)
section
variable {c : Int} {e l a b n : Nat} {R : PV → List OV → Prop}
/-- the sides of the rooms -/
structure SdI (a b n : Nat) (names : List Nat) (k : Nat) (sd : List Nat) : Prop where
  len : sd.length = n
  two : ∀ x ∈ sd, x ≤ 2
  at_ : ∀ j x, j < k → names[j]? = some x → sd[x]? = some (partOf a b j)
theorem tp_sides {names : List Nat} {ds : List Dr} {x3 x4 x5 x6 x13 x14 x15 x16 x17 x18 : Slot} (a1 : 1 ≤ a) (ab : a < b) (bn : b < n) (n8 : n ≤ 8) (nl : names.length = n) (nn : names.Nodup) (nm : ∀ x, x ∈ names ↔ x < n)
    (hr : ∀ sd, SdI a b n names n sd → R (.tup [.int n, .lst (ds.map dP), .lst (sd.map nP)]) []) :
    evSs sp (ss t3__law_two_parts) [.fz (.int c), .fz (.int e), .fz (.int l), x3, x4, x5, x6, .fz (.int a), .fz (.int b), .fz (.int n), .fz (.lst ((partsL a b n).map nP)), .fz (.lst (names.map nP)), .ow (.lst (ds.map dP)), x13, x14, x15, x16, x17, x18] (finK [.va, .va, .va] R) := by
  have hR : R62 (n : Int) := ⟨by omega, by omega⟩
  simp only [t3__law_two_parts]
  simp -implicitDefEqProofs [hR, rangeL_0, rep1_map, -ix_l]
  refine ⟨by omega, ?_⟩
  refine for_range sp n (fun k e' => ∃ (sd : List Nat) (x5 : Slot), e' = [.fz (.int c), .fz (.int e), .fz (.int l), x3, x4, x5, x6, .fz (.int a), .fz (.int b), .fz (.int n), .fz (.lst ((partsL a b n).map nP)), .fz (.lst (names.map nP)), .fz (.lst (ds.map dP)), .ow (.lst (sd.map nP)), x14, x15, x16, x17, x18] ∧ SdI a b n names k sd) ?_ ?_ ?_
  · refine ⟨List.replicate n 1, x5, ?_, ⟨by simp, fun x hx => by rw [List.eq_of_mem_replicate hx]; decide, fun j x hj => by omega⟩⟩
    simp [rep1_map]
  · rintro k e' J hk ⟨sd, x5, rfl, S⟩ hJ
    obtain ⟨x, hx⟩ := get_ex (xs := names) (k := k) (by omega)
    have hxn := (nm x).mp (mem_of_get hx)
    have sl := S.len
    have hp := parts_at ab bn hk
    simp -implicitDefEqProofs [ixl_lt hx, ixl_lt hp, sl, hxn, -ix_l]
    have := hJ _ ⟨sd.set x (partOf a b k), .fz (.int (k : Nat)), rfl, ⟨by simp [sl], ?_, ?_⟩⟩
    · simpa using this
    · intro y hy
      rcases List.mem_or_eq_of_mem_set hy with h | h
      · exact S.two y h
      · rw [h]; simp only [partOf]; split <;> (try split) <;> omega
    · intro j y hj hy
      by_cases ej : j = k
      · subst ej
        rw [hx] at hy
        cases hy
        rw [List.getElem?_set_self (by omega)]
      · have ne : x ≠ y := fun h => by
          subst h
          exact ej (nd_get nn hy hx)
        rw [List.getElem?_set_ne ne]
        exact S.at_ j y (by omega) hy
  · rintro e' ⟨sd, x5, rfl, S⟩
    have := hr sd S
    simp only [t4__law_two_parts]
    simp -implicitDefEqProofs [-ix_l]
    exact this
/-- the ends of a door, by the places of its rooms -/
structure DrP (a b n l : Nat) (names : List Nat) (d : Dr) : Prop where
  ex : ∃ one o x y, names[one]? = some x ∧ names[o]? = some y ∧ ((d.a = x ∧ d.b = y) ∨ (d.a = y ∧ d.b = x)) ∧ one < n ∧ o < n ∧ o ≠ one ∧ ¬ (one < a ∧ a ≤ o ∧ o < b) ∧ ¬ (o < a ∧ a ≤ one ∧ one < b)
  cy : CyOk l d.c
structure DsI (a b n l : Nat) (names : List Nat) (i : Nat) (ds : List Dr) : Prop where
  len : ds.length = i
  dr : ∀ d ∈ ds, DrP a b n l names d
  lk : ∀ k, 1 ≤ k → k < i + 1 → k < n → ∃ d ∈ ds, ∃ one o x y, Lk a b n k one o ∧ names[one]? = some x ∧ names[o]? = some y ∧ ((d.a = x ∧ d.b = y) ∨ (d.a = y ∧ d.b = x))
theorem DsI.parts {names : List Nat} {ds : List Dr} {sd : List Nat} {i : Nat} (a1 : 1 ≤ a) (ab : a < b) (bn : b < n) (nl : names.length = n) (nn : names.Nodup) (nm : ∀ x, x ∈ names ↔ x < n) (D : DsI a b n l names i ds) (hi : n ≤ i + 1) (S : SdI a b n names n sd) : Parts n l ds sd ∧ Conn n ds := by
  refine ⟨⟨by omega, fun d hd => ?_, S.len, S.two, fun d hd => ?_⟩, ?_⟩
  · obtain ⟨⟨one, o, x, y, e1, e2, e3, h1, h2, h3, h4, h5⟩, cy⟩ := D.dr d hd
    have q1 := (nm x).mp (mem_of_get e1)
    have q2 := (nm y).mp (mem_of_get e2)
    have q3 : x ≠ y := fun e => by
      subst e
      exact h3 (nd_get nn e2 e1)
    rcases e3 with ⟨u, v⟩ | ⟨u, v⟩
    · exact ⟨by omega, by omega, by omega, cy⟩
    · exact ⟨by omega, by omega, by omega, cy⟩
  · obtain ⟨⟨one, o, x, y, e1, e2, e3, h1, h2, h3, h4, h5⟩, cy⟩ := D.dr d hd
    have s1 := S.at_ one x h1 e1
    have s2 := S.at_ o y h2 e2
    have z : ∀ i, (partOf a b i = 0 → i < a) ∧ (partOf a b i = 2 → a ≤ i ∧ i < b) := by
      intro i
      simp only [partOf]
      split
      · exact ⟨fun _ => by assumption, fun h => by omega⟩
      · split
        · exact ⟨fun h => by omega, fun _ => ⟨by omega, by assumption⟩⟩
        · exact ⟨fun h => by omega, fun h => by omega⟩
    have k1 := z one
    have k2 := z o
    intro u v hu hv
    rcases e3 with ⟨w1, w2⟩ | ⟨w1, w2⟩
    · rw [w1, s1] at hu
      rw [w2, s2] at hv
      cases hu; cases hv
      exact ⟨fun z => h4 ⟨k1.1 z.1, k2.2 z.2⟩, fun z => h5 ⟨k2.1 z.2, k1.2 z.1⟩⟩
    · rw [w1, s2] at hu
      rw [w2, s1] at hv
      cases hu; cases hv
      exact ⟨fun z => h5 ⟨k2.1 z.1, k1.2 z.2⟩, fun z => h4 ⟨k1.1 z.2, k2.2 z.1⟩⟩
  · exact Conn_of2 a1 ab bn nl nm fun k k1 kn => D.lk k k1 (by omega) kn
/-- the row of the house -/
structure RwI (e l : Nat) (r : List Nat) : Prop where
  len : r.length = 12 + (7 + e) * (5 + l)
  x0 : ∀ x, r[0]? = some x → x < 5
  x1 : ∀ x, r[1]? = some x → x < 5
  x2 : ∀ x, r[2]? = some x → x < 2
  x3 : ∀ x, r[3]? = some x → x < e + 1
  two : ∀ j x, j < 7 + e → r[12 + j * (5 + l) + 2]? = some x → x < 2
theorem tp_doors {r : List Nat} {x3 x5 x12 x13 x14 x15 x16 x17 x18 : Slot} {x4 : Slot} {v3 : Nat} (hr3 : r[3]? = some v3) (W : RwI e l r) (e3 : e ≤ 3) (l2 : 2 ≤ l) (l20 : l ≤ 20) (a1 : 1 ≤ a) (ab : a < b) (bn : b < n) (n8 : n ≤ 8)
    (hr : ∀ (ds : List Dr) (sd : List Nat), n ≤ 8 → ds.length ≤ n - 1 + e → Parts n l ds sd → Conn n ds → R (.tup [.int n, .lst (ds.map dP), .lst (sd.map nP)]) []) :
    evSs sp (ss t2__law_two_parts) [.fz (.int c), .fz (.int e), .fz (.int l), .fz (.int (5 + (l : Int))), x4, x5, .fz (.lst (r.map nP)), .fz (.int a), .fz (.int b), .fz (.int n), .fz (.lst ((partsL a b n).map nP)), .ow (.lst []), x12, x13, x14, x15, x16, x17, x18] (finK [.va, .va, .va] R) := by
  have hR : R62 (n : Int) := ⟨by omega, by omega⟩
  have wl := W.len
  have b3 := W.x3 v3 hr3
  have hR3 : R62 ((n : Int) + v3) := ⟨by omega, by omega⟩
  have hR1 : R62 (1 : Int) := ⟨by decide, by decide⟩
  have hbig : (7 + e) * (5 + l) ≤ 300 := Nat.le_trans (Nat.mul_le_mul (show 7 + e ≤ 12 by omega) (show 5 + l ≤ 25 by omega)) (by decide)
  have i3 := ixl_i (f := nP) hr3 (show (3 : Int) = ((3 : Nat) : Int) from rfl)
  have big : 12 + (7 + e) * 7 ≤ r.length := by
    rw [wl]
    exact Nat.add_le_add_left (Nat.mul_le_mul_left _ (by omega)) _
  simp only [t2__law_two_parts]
  simp -implicitDefEqProofs [hR, rangeL_0, -seqK_nx, -ix_l]
  refine for_range sp n (fun k env => ∃ (names : List Nat) (x5 : Slot), env = [.fz (.int c), .fz (.int e), .fz (.int l), .fz (.int (5 + (l : Int))), x4, x5, .fz (.lst (r.map nP)), .fz (.int a), .fz (.int b), .fz (.int n), .fz (.lst ((partsL a b n).map nP)), .ow (.lst (names.map nP)), x12, x13, x14, x15, x16, x17, x18] ∧ names.length = k ∧ names.Nodup ∧ ∀ x, x ∈ names ↔ x < k) ⟨[], x5, rfl, rfl, by simp, by simp⟩ ?_ ?_
  · rintro k env J hk ⟨names, x5, rfl, nl, nn, nm⟩ hJ
    obtain ⟨v, hv⟩ := get_ex (xs := r) (k := 4 + k) (by omega)
    have iv := ixl_i (f := nP) hv (show (4 : Int) + k = ((4 + k : Nat) : Int) by omega)
    have p1 : (0 : Int) < (k : Int) + 1 := by omega
    have b1 : names.length < 16777216 := by omega
    have g1 := Int.emod_nonneg (v : Int) (b := (k : Int) + 1) (by omega)
    have g2 := Int.emod_lt_of_pos (v : Int) (b := (k : Int) + 1) p1
    simp -implicitDefEqProofs [iv, p1, b1, -ix_l]
    refine ⟨⟨g1, by omega⟩, ?_⟩
    generalize ((v : Int) % ((k : Int) + 1)).toNat = i
    refine hJ _ ⟨names.take i ++ [k] ++ names.drop i, .fz (.int (k : Nat)), ?_, ?_, ?_, ?_⟩
    · simp [List.map_take, List.map_drop]
    · rw [take_ins_len, nl]
    · exact take_ins_nd nn (by rw [nm]; omega)
    · intro x
      rw [take_ins_mem, nm]; omega
  · rintro env ⟨names, x5, rfl, nl, nn, nm⟩
    obtain ⟨m, hm⟩ : ∃ m, m = n + v3 - 1 := ⟨_, rfl⟩
    have rg : rangeL (1 : Int) (((n : Int) + v3).toNat - 1) = ((List.range m).map (· + 1)).map nP := by
      have := range_from' 1 (n + v3)
      rw [← hm] at this
      rw [show ((n : Int) + v3).toNat - 1 = m by omega]
      exact this
    simp -implicitDefEqProofs [i3, hR1, hR3, rg, -ix_l, -List.map_map]
    refine for_map sp ((List.range m).map (· + 1)) nP (fun i env => ∃ (ds : List Dr) (x5 x14 x15 x16 x17 x18 : Slot), env = [.fz (.int c), .fz (.int e), .fz (.int l), .fz (.int (5 + (l : Int))), x4, x5, .fz (.lst (r.map nP)), .fz (.int a), .fz (.int b), .fz (.int n), .fz (.lst ((partsL a b n).map nP)), .fz (.lst (names.map nP)), .ow (.lst (ds.map dP)), x13, x14, x15, x16, x17, x18] ∧ DsI a b n l names i ds) ?_ ?_ ?_
    · exact ⟨[], _, _, _, _, _, _, rfl, ⟨rfl, by simp, fun k k1 k2 => by omega⟩⟩
    · rintro i k env J hx ⟨ds, x5, x14, x15, x16, x17, x18, rfl, D⟩ hJ
      have hi : i < m := by have := lt_of_get hx; simpa using this
      rw [List.getElem?_map, List.getElem?_range hi] at hx
      cases hx
      have dl := D.len
      have le1 : i + 1 ≤ 7 + e := by omega
      have lem : (i + 1) * (5 + l) ≤ (7 + e) * (5 + l) := Nat.mul_le_mul_right _ le1
      rw [Nat.succ_mul] at lem
      obtain ⟨A, hA⟩ : ∃ A : Nat, A = 12 + i * (5 + l) := ⟨_, rfl⟩
      have hA2 : (12 : Int) + (i : Int) * (5 + (l : Int)) = (A : Int) := by
        rw [hA]; simp
      have hAl : A + (5 + l) ≤ r.length := by omega
      obtain ⟨v0, hv0⟩ := get_ex (xs := r) (k := A) (by omega)
      obtain ⟨v1, hv1⟩ := get_ex (xs := r) (k := A + 1) (by omega)
      obtain ⟨v2, hv2⟩ := get_ex (xs := r) (k := A + 2) (by omega)
      obtain ⟨v4, hv4⟩ := get_ex (xs := r) (k := A + 3) (by omega)
      have v2b : v2 < 2 := W.two i v2 (by omega) (by rw [← hA]; exact hv2)
      have j0 := ixl_i (f := nP) hv0 hA2
      have j1 := ixl_i (f := nP) hv1 (show (12 : Int) + (i : Int) * (5 + (l : Int)) + 1 = _ by rw [hA2]; rfl)
      have j2 := ixl_i (f := nP) hv2 (show (12 : Int) + (i : Int) * (5 + (l : Int)) + 2 = _ by rw [hA2]; rfl)
      have j3 := ixl_i (f := nP) hv4 (show (12 : Int) + (i : Int) * (5 + (l : Int)) + 3 = _ by rw [hA2]; rfl)
      have mo : MulOk (i : Int) (5 + (l : Int)) := mulOk_l (by omega) (by omega)
      have lb : ds.length < 16777216 := by omega
      simp -implicitDefEqProofs [mo, j1, -ix_l]
      rw [sp__law_ends]
      refine ⟨i + 1, a, b, n, v1, by simp [partsL], ⟨by omega, a1, ab, bn, by omega, by omega⟩, ?_⟩
      intro one os o1 o2 o3 o4 o5
      have osl : 0 < os.length := List.length_pos_iff.mpr o2
      have g1 := Int.emod_nonneg (v0 : Int) (b := (os.length : Int)) (by omega)
      have g2 := Int.emod_lt_of_pos (v0 : Int) (b := (os.length : Int)) (by omega)
      obtain ⟨u, hu⟩ : ∃ u : Nat, (v0 : Int) % (os.length : Int) = (u : Int) := ⟨((v0 : Int) % (os.length : Int)).toNat, by omega⟩
      obtain ⟨o, ho⟩ := get_ex (xs := os) (k := u) (by omega)
      have io := ixl_i (f := nP) ho hu
      obtain ⟨q1, q2, q3, q4⟩ := o4 o (mem_of_get ho)
      obtain ⟨x, hx⟩ := get_ex (xs := names) (k := one) (by omega)
      obtain ⟨y, hy⟩ := get_ex (xs := names) (k := o) (by omega)
      simp -implicitDefEqProofs [j0, osl, io, ixl_lt hx, ixl_lt hy, -ix_l]
      rw [sp__law_any_cycle]
      refine ⟨r, A + 4, l, by rw [hA2]; rfl, ⟨l2, by omega, by omega⟩, ?_⟩
      intro cyc hcy
      have g3 := Int.emod_nonneg (v4 : Int) (b := (ds.length : Int) + 1) (by omega)
      have g4 := Int.emod_lt_of_pos (v4 : Int) (b := (ds.length : Int) + 1) (by omega)
      have p4 : (0 : Int) < (ds.length : Int) + 1 := by omega
      have fin : ∀ (s t : Nat) (pos : Nat), ((s = x ∧ t = y) ∨ (s = y ∧ t = x)) → J [.fz (.int c), .fz (.int e), .fz (.int l), .fz (.int (5 + (l : Int))), x4, .fz (.int ((i : Int) + 1)), .fz (.lst (r.map nP)), .fz (.int a), .fz (.int b), .fz (.int n), .fz (.lst ((partsL a b n).map nP)), .fz (.lst (names.map nP)), .ow (.lst ((ds.map dP).take pos ++ PV.tup [.int s, .int t, .str cyc] :: (ds.map dP).drop pos)), x13, .fz (.int (12 + (i : Int) * (5 + (l : Int)))), .fz (.lst [.int x, .int y]), .fz (.str cyc), .fz (.int one), .fz (.lst (os.map nP))] := by
        intro s t pos hst
        refine hJ _ ⟨ds.take pos ++ [⟨s, t, cyc⟩] ++ ds.drop pos, .fz (.int ((i : Int) + 1)), .fz (.int (12 + (i : Int) * (5 + (l : Int)))), .fz (.lst [.int x, .int y]), .fz (.str cyc), .fz (.int one), .fz (.lst (os.map nP)), ?_, ⟨?_, ?_, ?_⟩⟩
        · simp [List.map_take, List.map_drop, dP]
        · rw [take_ins_len, dl]
        · intro d hd
          rw [take_ins_mem] at hd
          rcases hd with hd | hd
          · subst hd
            exact ⟨⟨one, o, x, y, hx, hy, hst, o1, q1, q2, q3, q4⟩, hcy⟩
          · exact D.dr d hd
        · intro k k1 k2 kn
          by_cases ek : k < i + 1
          · obtain ⟨d, hd, w⟩ := D.lk k k1 ek kn
            exact ⟨d, by rw [take_ins_mem]; exact .inr hd, w⟩
          · have ek : k = i + 1 := by omega
            subst ek
            obtain ⟨w1, w2⟩ := o5 kn
            obtain ⟨w3, w4, w5, w6, w7⟩ := w2 o (mem_of_get ho)
            exact ⟨⟨s, t, cyc⟩, by rw [take_ins_mem]; exact .inl rfl, one, o, x, y, ⟨w1, q1, w3, w4, w5, w6, w7⟩, hx, hy, hst⟩
      have : v2 = 0 ∨ v2 = 1 := by omega
      rcases this with rfl | rfl
      · simp -implicitDefEqProofs [j2, j3, lst0, lst1, p4, lb, -ix_l]
        refine ⟨⟨g3, by omega⟩, ?_⟩
        exact fin x y _ (.inl ⟨rfl, rfl⟩)
      · simp -implicitDefEqProofs [j2, j3, lst0, lst1, p4, lb, -ix_l]
        refine ⟨⟨g3, by omega⟩, ?_⟩
        exact fin y x _ (.inr ⟨rfl, rfl⟩)
    · rintro env ⟨ds, x5, x14, x15, x16, x17, x18, rfl, D⟩
      rw [List.length_map, List.length_range] at D
      simp only [seqK_nx]
      refine tp_sides a1 ab bn n8 nl nn nm fun sd S => ?_
      obtain ⟨P, C⟩ := D.parts a1 ab bn nl nn nm (by omega) S
      exact hr ds sd n8 (by rw [D.len]; omega) P C
def baseL (e : Nat) : List Nat := [5, 5, 2, e + 1, 60, 60, 60, 60, 60, 60, 60, 60]
theorem tp_row {rest : List Nat} {x5 : Slot} (e3 : e ≤ 3) (l2 : 2 ≤ l) (l20 : l ≤ 20) (rl : rest.length = (7 + e) * (5 + l)) (rp : ∀ x ∈ rest, 0 < x ∧ x < 1000) (r2 : ∀ j, j < 7 + e → rest[j * (5 + l) + 2]? = some 2)
    (hr : ∀ (n : Nat) (ds : List Dr) (sd : List Nat), n ≤ 8 → ds.length ≤ n - 1 + e → Parts n l ds sd → Conn n ds → R (.tup [.int n, .lst (ds.map dP), .lst (sd.map nP)]) []) :
    evSs sp (ss t1__law_two_parts) [.fz (.int c), .fz (.int e), .fz (.int l), .fz (.int (5 + (l : Int))), .fz (.lst ((baseL e ++ rest).map nP)), x5, .u, .u, .u, .u, .u, .u, .u, .u, .u, .u, .u, .u, .u] (finK [.va, .va, .va] R) := by
  have hbig : (7 + e) * (5 + l) ≤ 300 := Nat.le_trans (Nat.mul_le_mul (show 7 + e ≤ 12 by omega) (show 5 + l ≤ 25 by omega)) (by decide)
  simp only [t1__law_two_parts]
  simp -implicitDefEqProofs [-ix_l, -List.map_append]
  rw [sp__law_row]
  refine ⟨c, baseL e ++ rest, rfl, ⟨by simp [baseL]; omega, ?_⟩, ?_⟩
  · intro x hx
    rcases List.mem_append.mp hx with h | h
    · simp [baseL] at h
      omega
    · have := rp x h; omega
  intro r rrl rb
  have rrl : r.length = 12 + (7 + e) * (5 + l) := by rw [rrl]; simp [baseL]; omega
  obtain ⟨z0, h0⟩ := get_ex (xs := r) (k := 0) (by omega)
  obtain ⟨z1, h1⟩ := get_ex (xs := r) (k := 1) (by omega)
  obtain ⟨z2, h2⟩ := get_ex (xs := r) (k := 2) (by omega)
  obtain ⟨z3, h3⟩ := get_ex (xs := r) (k := 3) (by omega)
  have b0 := rb 0 z0 5 h0 rfl
  have b1 := rb 1 z1 5 h1 rfl
  have b2 := rb 2 z2 2 h2 rfl
  have W : RwI e l r := by
    refine ⟨rrl, fun x hx => rb 0 x 5 hx rfl, fun x hx => rb 1 x 5 hx rfl, fun x hx => rb 2 x 2 hx rfl, fun x hx => rb 3 x (e + 1) hx rfl, fun j x hj hx => rb _ x 2 hx ?_⟩
    rw [List.getElem?_append_right (by simp [baseL]; omega)]
    rw [show 12 + j * (5 + l) + 2 - (baseL e).length = j * (5 + l) + 2 by simp [baseL]; omega]
    exact r2 j hj
  have i0 := ixl_i (f := nP) h0 (show (0 : Int) = ((0 : Nat) : Int) from rfl)
  have i1 := ixl_i (f := nP) h1 (show (1 : Int) = ((1 : Nat) : Int) from rfl)
  have i2 := ixl_i (f := nP) h2 (show (2 : Int) = ((2 : Nat) : Int) from rfl)
  obtain ⟨a, ha, ha1, ha2⟩ : ∃ a : Nat, 1 + ((z0 : Int) + 1) / 2 = (a : Int) ∧ 1 ≤ a ∧ a ≤ 3 := ⟨1 + (z0 + 1) / 2, by omega, by omega, by omega⟩
  obtain ⟨b, hb, hb1, hb2⟩ : ∃ b : Nat, (a : Int) + 1 + ((z1 : Int) + 1) / 2 = (b : Int) ∧ a < b ∧ b ≤ a + 3 := ⟨a + 1 + (z1 + 1) / 2, by omega, by omega, by omega⟩
  obtain ⟨n, hn, hn1, hn2⟩ : ∃ n : Nat, (b : Int) + 1 + (z2 : Int) = (n : Int) ∧ b < n ∧ n ≤ b + 2 := ⟨b + 1 + z2, by omega, by omega, by omega⟩
  have hp : List.replicate a (PV.int 0) ++ (List.replicate (b - a) (PV.int 2) ++ List.replicate (n - b) (PV.int 1)) = (partsL a b n).map nP := by
    simp [partsL]
  have tba : ((b : Int) - a).toNat = b - a := by omega
  have tnb : ((n : Int) - b).toNat = n - b := by omega
  simp -implicitDefEqProofs [i0, i1, i2, ha, hb, hn, tba, tnb, hp, -ix_l]
  refine ⟨by omega, by omega, by omega, by omega, by omega, ?_⟩
  exact tp_doors (x3 := .u) h3 W e3 l2 l20 ha1 hb1 hn1 (by omega) (hr n)
end
theorem ev__law_two_parts : ∀ ts R, s__law_two_parts ts R → evD sp [.va, .va, .va] 19 b__law_two_parts ts R := by
  rintro ts R ⟨c, e, l, rfl, ⟨e3, l2, l20⟩, hr⟩
  refine evD_of sp rfl rfl ?_
  have hR : R62 (7 + (e : Int)) := ⟨by omega, by omega⟩
  have hT : (7 + (e : Int)).toNat = 7 + e := by omega
  have hbig : ∀ k, k ≤ 7 + e → k * (5 + l) ≤ 300 := fun k hk => Nat.le_trans (Nat.mul_le_mul (show k ≤ 12 by omega) (show 5 + l ≤ 25 by omega)) (by decide)
  simp only [b__law_two_parts_e]
  simp -implicitDefEqProofs [hR, hT, rangeL_0, -ix_l]
  refine for_range sp (7 + e) (fun k env => ∃ (rest : List Nat) (x5 : Slot), env = [.fz (.int c), .fz (.int e), .fz (.int l), .fz (.int (5 + (l : Int))), .fz (.lst ((baseL e ++ rest).map nP)), x5, .u, .u, .u, .u, .u, .u, .u, .u, .u, .u, .u, .u, .u] ∧ rest.length = k * (5 + l) ∧ (∀ x ∈ rest, 0 < x ∧ x < 1000) ∧ ∀ j, j < k → rest[j * (5 + l) + 2]? = some 2) ?_ ?_ ?_
  · exact ⟨[], .u, by simp [baseL], by simp, by simp, fun j hj => by omega⟩
  · rintro k env J hk ⟨rest, x5, rfl, rl, rp, r2⟩ hJ
    have hb := hbig k (by omega)
    have q1 : (baseL e).length = 12 := rfl
    have q2 : rest.length ≤ 300 := by omega
    simp -implicitDefEqProofs [rep1_map, q1, -ix_l]
    refine ⟨by omega, by omega, by omega, ?_⟩
    refine hJ _ ⟨rest ++ [60, 60, 2, 60, 60] ++ List.replicate l 2, .fz (.int (k : Nat)), ?_, ?_, ?_, ?_⟩
    · simp
    · simp [rl, Nat.succ_mul]; omega
    · intro x hx
      simp at hx
      rcases hx with hx | hx | hx | hx
      · exact rp x hx
      all_goals omega
    · intro j hj
      by_cases ej : j = k
      · subst ej
        rw [List.append_assoc, List.getElem?_append_right (by omega), rl, Nat.add_sub_cancel_left]
        rfl
      · have : (j + 1) * (5 + l) ≤ k * (5 + l) := Nat.mul_le_mul_right _ (by omega)
        rw [Nat.succ_mul] at this
        rw [List.append_assoc, List.getElem?_append_left (by omega)]
        exact r2 j (by omega)
  · rintro env ⟨rest, x5, rfl, rl, rp, r2⟩
    simp only [seqK_nx]
    exact tp_row e3 l2 l20 rl rp r2 hr
end Lt
/-! T4: marks, hands -/
namespace Lt
open Lh
theorem rrb {x : Nat} (h : x ≤ 2) {Q : PV → Prop} : ixR (.str [82, 82, 66]) (.int (x : Int)) Q = Q (.str [colL x]) := by
  have : x = 0 ∨ x = 1 ∨ x = 2 := by omega
  rcases this with rfl | rfl | rfl <;> exact ixs_nat (c := [82, 82, 66]) rfl (by decide)
/-- a sign of a cycle at a place from behind, too -/
theorem ixs_back {c : List Nat} {i : Nat} (hi : i < c.length) (hl : c.length ≤ 16777216) {Q : PV → Prop} : ixR (.str c) (.int ((i : Int) - 1)) Q = Q (.str [c.getD (if i = 0 then c.length - 1 else i - 1) 0]) := by
  by_cases h : i = 0
  · subst h
    rw [if_pos rfl]
    obtain ⟨y, hy⟩ := get_ex (xs := c) (k := c.length - 1) (by omega)
    have e : pyIx c.length (((0 : Nat) : Int) - 1) = some (c.length - 1) := by
      rw [pyIx, if_neg (by omega), if_pos (by omega)]
      congr 1; omega
    have g : c.getD (c.length - 1) 0 = y := by rw [List.getD_eq_getElem?_getD, hy]; rfl
    rw [g]
    refine propext ⟨fun ⟨k, z, hk, _, hz, q⟩ => ?_, fun q => ⟨c.length - 1, y, e, hl, hy, q⟩⟩
    rw [e] at hk
    cases hk
    rw [hy] at hz
    cases hz; exact q
  · rw [if_neg h]
    obtain ⟨y, hy⟩ := get_ex (xs := c) (k := i - 1) (by omega)
    have g : c.getD (i - 1) 0 = y := by rw [List.getD_eq_getElem?_getD, hy]; rfl
    rw [g, show (i : Int) - 1 = ((i - 1 : Nat) : Int) by omega]
    exact ixs_nat hy hl
theorem ixs_at {c : List Nat} {i : Nat} (hi : i < c.length) (hl : c.length ≤ 16777216) {Q : PV → Prop} : ixR (.str c) (.int (i : Int)) Q = Q (.str [c.getD i 0]) := by
  obtain ⟨y, hy⟩ := get_ex hi
  have g : c.getD i 0 = y := by rw [List.getD_eq_getElem?_getD, hy]; rfl
  rw [g]
  exact ixs_nat hy hl
/-- a letter of a cycle that the cycle begins again -/
theorem begins {c : List Nat} {x : Nat} (hx : x ∈ c) (hn : ∃ y ∈ c, y ≠ x) : ∃ i, i < c.length ∧ c.getD i 0 = x ∧ c.getD (if i = 0 then c.length - 1 else i - 1) 0 ≠ x := by
  apply Classical.byContradiction
  intro no
  have st : ∀ i, i < c.length → c.getD i 0 = x → c.getD (if i = 0 then c.length - 1 else i - 1) 0 = x := by
    intro i hi h
    apply Classical.byContradiction
    intro hh
    exact no ⟨i, hi, h, hh⟩
  obtain ⟨i0, hi0⟩ := List.getElem?_of_mem hx
  have l0 := lt_of_get hi0
  have g0 : c.getD i0 0 = x := by rw [List.getD_eq_getElem?_getD, hi0]; rfl
  have down : ∀ k, k ≤ i0 → c.getD (i0 - k) 0 = x := by
    intro k
    induction k with
    | zero => intro _; exact g0
    | succ k ih =>
      intro hk
      have := st (i0 - k) (by omega) (ih (by omega))
      rw [if_neg (by omega)] at this
      rwa [show i0 - (k + 1) = i0 - k - 1 by omega]
  have z := down i0 (Nat.le_refl _)
  rw [Nat.sub_self] at z
  have e := st 0 (by omega) z
  rw [if_pos rfl] at e
  have down2 : ∀ k, k < c.length → c.getD (c.length - 1 - k) 0 = x := by
    intro k
    induction k with
    | zero => intro _; exact e
    | succ k ih =>
      intro hk
      have := st (c.length - 1 - k) (by omega) (ih (by omega))
      rw [if_neg (by omega)] at this
      rwa [show c.length - 1 - (k + 1) = c.length - 1 - k - 1 by omega]
  obtain ⟨y, hy, hne⟩ := hn
  obtain ⟨j, hj⟩ := List.getElem?_of_mem hy
  have lj := lt_of_get hj
  have := down2 (c.length - 1 - j) (by omega)
  rw [show c.length - 1 - (c.length - 1 - j) = j by omega, List.getD_eq_getElem?_getD, hj] at this
  exact hne this
theorem cy_has {m : Nat} {c : List Nat} (C : CyOk m c) (x : Nat) : colL x ∈ c ∧ ∃ y ∈ c, y ≠ colL x := by
  simp only [colL]
  split
  · exact ⟨C.b, 82, C.r, by decide⟩
  · exact ⟨C.r, 66, C.b, by decide⟩
/-- the good places of a door, three times made less -/
def gA (x y : Nat) (c : List Nat) : List Nat := if (x = 1 ∨ y = 1) ∧ ¬ (x = 1 ∧ y = 1) then (List.range c.length).filter fun i => decide (c.getD i 0 ≠ colL (x + y - 1)) else List.range c.length
def gB (r0 x y : Nat) (c g : List Nat) : List Nat := if ¬ (x = 1 ∨ y = 1) ∧ 0 < r0 then g.filter fun i => decide (c.getD i 0 = colL x) else g
def gC (r0 x y : Nat) (c g : List Nat) : List Nat := if ¬ (x = 1 ∨ y = 1) ∧ 2 < r0 then g.filter fun i => decide (c.getD (if i = 0 then c.length - 1 else i - 1) 0 ≠ colL x) else g
def goodP (r0 x y : Nat) (c : List Nat) : List Nat := gC r0 x y c (gB r0 x y c (gA x y c))
theorem gA_sub {x y i : Nat} {c : List Nat} (h : i ∈ gA x y c) : i < c.length := by
  simp only [gA] at h
  split at h
  · simpa using (List.mem_filter.mp h).1
  · simpa using h
theorem gB_sub {r0 x y i : Nat} {c g : List Nat} (h : i ∈ gB r0 x y c g) : i ∈ g := by
  simp only [gB] at h
  split at h
  · exact (List.mem_filter.mp h).1
  · exact h
theorem gC_sub {r0 x y i : Nat} {c g : List Nat} (h : i ∈ gC r0 x y c g) : i ∈ g := by
  simp only [gC] at h
  split at h
  · exact (List.mem_filter.mp h).1
  · exact h
theorem good_lt {r0 x y i : Nat} {c : List Nat} (h : i ∈ goodP r0 x y c) : i < c.length := gA_sub (gB_sub (gC_sub h))
theorem good_mark {r0 x y i : Nat} {c : List Nat} (h : i ∈ goodP r0 x y c) (h1 : (x = 1 ∨ y = 1) ∧ ¬ (x = 1 ∧ y = 1)) : c.getD i 0 ≠ colL (x + y - 1) := by
  have := gB_sub (gC_sub h)
  simp only [gA] at this
  rw [if_pos h1] at this
  have := (List.mem_filter.mp this).2
  exact of_decide_eq_true this
theorem good_ne {m r0 x y : Nat} {c : List Nat} (C : CyOk m c) : goodP r0 x y c ≠ [] := by
  by_cases h1 : x = 1 ∨ y = 1
  · have e : goodP r0 x y c = gA x y c := by
      simp only [goodP, gC, gB]
      rw [if_neg (fun z => z.1 h1), if_neg (fun z => z.1 h1)]
    rw [e]
    simp only [gA]
    split
    · obtain ⟨_, w, hw, hn⟩ := cy_has C (x + y - 1)
      obtain ⟨i, hi⟩ := List.getElem?_of_mem hw
      have : i ∈ (List.range c.length).filter fun i => decide (c.getD i 0 ≠ colL (x + y - 1)) := by
        rw [List.mem_filter]
        refine ⟨by simpa using lt_of_get hi, ?_⟩
        rw [List.getD_eq_getElem?_getD, hi]
        simpa using hn
      exact List.ne_nil_of_mem this
    · have : 0 < c.length := List.length_pos_of_mem C.r
      exact List.ne_nil_of_mem (a := 0) (by simpa using this)
  · obtain ⟨i, q1, q2, q3⟩ := begins (cy_has C x).1 (cy_has C x).2
    have k0 : i ∈ gA x y c := by
      simp only [gA]
      rw [if_neg (fun z => h1 z.1)]
      simpa using q1
    have k1 : i ∈ gB r0 x y c (gA x y c) := by
      simp only [gB]
      split
      · exact List.mem_filter.mpr ⟨k0, decide_eq_true q2⟩
      · exact k0
    have k2 : i ∈ goodP r0 x y c := by
      simp only [goodP, gC]
      split
      · exact List.mem_filter.mpr ⟨k1, decide_eq_true q3⟩
      · exact k1
    exact List.ne_nil_of_mem k2
theorem ev__law_marks : ∀ ts R, s__law_marks ts R → evD sp [.va, .va, .va, .va] 11 b__law_marks ts R := by
  rintro ts R ⟨r, a, n, l, ds, sd, rfl, ⟨P, l20, hl, r0, dl⟩, hr⟩
  refine evD_of sp rfl rfl ?_
  have hR : R62 (ds.length : Int) := ⟨by omega, by omega⟩
  obtain ⟨z, hz⟩ := get_ex (xs := r) (k := 0) r0
  have iz := ixl_i (f := nP) hz (show (0 : Int) = ((0 : Nat) : Int) from rfl)
  simp only [b__law_marks]
  simp -implicitDefEqProofs [hR, rangeL_0, -ix_l, -ix_t]
  refine for_range sp ds.length (fun k env => ∃ (ps : List Nat) (x5 x6 x7 x8 x9 x10 : Slot), env = [.fz (.lst (r.map nP)), .fz (.int a), .fz (.lst (ds.map dP)), .fz (.lst (sd.map nP)), .ow (.lst (ps.map nP)), x5, x6, x7, x8, x9, x10] ∧ ps.length = k ∧ ∀ (k p : Nat) (d : Dr), ps[k]? = some p → ds[k]? = some d → p < d.c.length ∧ MarkOk sd d p) ⟨[], _, _, _, _, _, _, rfl, rfl, by simp⟩ ?_ ?_
  · rintro k env J hk ⟨ps, x5, x6, x7, x8, x9, x10, rfl, pl, pm⟩ hJ
    obtain ⟨d, hd⟩ := get_ex hk
    obtain ⟨da, db, dne, cy⟩ := P.dr d (mem_of_get hd)
    obtain ⟨x, hx⟩ := get_ex (xs := sd) (k := d.a) (by rw [P.len]; exact da)
    obtain ⟨y, hy⟩ := get_ex (xs := sd) (k := d.b) (by rw [P.len]; exact db)
    have x2 := P.two x (mem_of_get hx)
    have y2 := P.two y (mem_of_get hy)
    have cp := P.cp d (mem_of_get hd) x y hx hy
    have cl := cy.len
    have cl2 : d.c.length ≤ 16777216 := by omega
    have idd := fun Q => ixl_lt (f := dP) (Q := Q) hd
    have ix := fun Q => ixl_lt (f := nP) (Q := Q) hx
    have iy := fun Q => ixl_lt (f := nP) (Q := Q) hy
    have in1 : ∀ (Q : PV → Prop), cmpR .inn (.int 1) (.lst [.int (x : Int), .int (y : Int)]) Q = Q (.bl (decide (x = 1 ∨ y = 1))) := by
      intro Q
      have := inNats (t := 1) (rs := [x, y]) (Q := Q)
      have e : (decide (1 ∈ [x, y])) = (decide (x = 1 ∨ y = 1)) := by
        rw [decide_eq_decide]; simp; constructor <;> (rintro (h | h) <;> simp [h])
      rw [e] at this
      exact this
    have ni1 : ∀ (Q : PV → Prop), cmpR .notin (.int 1) (.lst [.int (x : Int), .int (y : Int)]) Q = Q (.bl (!decide (x = 1 ∨ y = 1))) := by
      intro Q
      have := niNats (t := 1) (rs := [x, y]) (Q := Q)
      have e : (decide (1 ∈ [x, y])) = (decide (x = 1 ∨ y = 1)) := by
        rw [decide_eq_decide]; simp; constructor <;> (rintro (h | h) <;> simp [h])
      rw [e] at this
      exact this
    have ne11 : ∀ (Q : PV → Prop), cmpR .ne (.lst [.int (x : Int), .int (y : Int)]) (.lst [.int 1, .int 1]) Q = Q (.bl (!decide (x = 1 ∧ y = 1))) := by
      intro Q
      rw [cmp_ne]
      have e1 : okEq (.lst [.int (x : Int), .int (y : Int)]) (.lst [.int 1, .int 1]) = true := by simp [okEq, dataB, dataBs]
      have e2 : eqPV (.lst [.int (x : Int), .int (y : Int)]) (.lst [.int 1, .int 1]) = decide (x = 1 ∧ y = 1) := by
        simp only [eqPV, eqPVs, Bool.and_true]
        rw [Bool.eq_iff_iff]; simp; omega
      rw [e1, e2]; simp
    -- the good places, three times made less
    have last : ∀ g : List Nat, g = goodP z x y d.c → evSs sp (ss [.mu .append (.nm 4) (es [.ix (.var 9) (.bin .mod (.bi1 .int (.ix (.var 0) (.bin .add (.var 1) (.var 5)))) (.bi1 .len (.var 9)))])])
        [.fz (.lst (r.map nP)), .fz (.int a), .fz (.lst (ds.map dP)), .fz (.lst (sd.map nP)), .ow (.lst (ps.map nP)), .fz (.int (k : Int)), .fz (.str d.c), .fz (.lst [.int x, .int y]), .fz (.str [colL x]), .fz (.lst (g.map nP)), x10] (loopK J (seqK sp (ss [.frz 4, .ret (.var 4)]) (finK [.va, .va, .va, .va] R))) := by
      intro g hg
      obtain ⟨v, hv⟩ := get_ex (xs := r) (k := a + k) (by omega)
      have iv := ixl_i (f := nP) hv (show (a : Int) + k = ((a + k : Nat) : Int) by omega)
      have gl : 0 < g.length := List.length_pos_iff.mpr (by rw [hg]; exact good_ne cy)
      have g1 := Int.emod_nonneg (v : Int) (b := (g.length : Int)) (by omega)
      have g2 := Int.emod_lt_of_pos (v : Int) (b := (g.length : Int)) (by omega)
      obtain ⟨u, hu⟩ : ∃ u : Nat, (v : Int) % (g.length : Int) = (u : Int) := ⟨((v : Int) % (g.length : Int)).toNat, by omega⟩
      obtain ⟨p, hp⟩ := get_ex (xs := g) (k := u) (by omega)
      have ip := ixl_i (f := nP) hp hu
      have pl2 : ps.length < 16777216 := by omega
      simp -implicitDefEqProofs [iv, ip, gl, pl2, -ix_l]
      refine hJ _ ⟨ps ++ [p], .fz (.int (k : Nat)), .fz (.str d.c), .fz (.lst [.int x, .int y]), .fz (.str [colL x]), .fz (.lst (g.map nP)), x10, by simp, by simp [pl], ?_⟩
      intro k' p' d' h1 h2
      by_cases hk' : k' < ps.length
      · rw [List.getElem?_append_left hk'] at h1
        exact pm k' p' d' h1 h2
      · have h4 := lt_of_get h1
        rw [List.length_append, List.length_singleton] at h4
        have : k' = k := by omega
        subst this
        rw [List.getElem?_append_right (by omega), pl, Nat.sub_self] at h1
        cases h1
        rw [hd] at h2
        cases h2
        have pg : p ∈ goodP z x y d.c := by rw [← hg]; exact mem_of_get hp
        refine ⟨good_lt pg, ?_⟩
        intro x' y' hx' hy'
        rw [hx] at hx'; cases hx'
        rw [hy] at hy'; cases hy'
        refine ⟨fun e1 e2 => ?_, fun e1 e2 => ?_⟩
        · have := good_mark pg ⟨.inl e1, fun w => e2 w.2⟩
          rwa [e1, Nat.add_sub_cancel_left] at this
        · have := good_mark pg ⟨.inr e1, fun w => e2 w.1⟩
          rwa [e1, Nat.add_sub_cancel] at this
    have cmpS : ∀ (u v : Nat) (Q : PV → Prop), cmpR .eq (.str [u]) (.str [v]) Q = Q (.bl (decide (u = v))) := by
      intro u v Q; simp [cmp_eq, okEq, scalP, eqPV]
    have cmpN : ∀ (u v : Nat) (Q : PV → Prop), cmpR .ne (.str [u]) (.str [v]) Q = Q (.bl (!decide (u = v))) := by
      intro u v Q; simp [cmp_ne, okEq, scalP, eqPV]
    have stage3 : ∀ g : List Nat, g = gB z x y d.c (gA x y d.c) → evSs sp (ss [.iff (.and2 (.v (.cmp .notin (.cint 1) (.var 7))) (.and1 (.v (.cmp .gt (.ix (.var 0) (.cint 0)) (.cint 2))))) (ss [.asg 9 (.comp (.val (.var 9)) (.nm 10) (.some (.v (.cmp .ne (.ix (.var 6) (.bin .sub (.var 10) (.cint 1))) (.var 8)))) (.var 10) [10]), .frz 9]) (ss []), .mu .append (.nm 4) (es [.ix (.var 9) (.bin .mod (.bi1 .int (.ix (.var 0) (.bin .add (.var 1) (.var 5)))) (.bi1 .len (.var 9)))])])
        [.fz (.lst (r.map nP)), .fz (.int a), .fz (.lst (ds.map dP)), .fz (.lst (sd.map nP)), .ow (.lst (ps.map nP)), .fz (.int (k : Int)), .fz (.str d.c), .fz (.lst [.int x, .int y]), .fz (.str [colL x]), .fz (.lst (g.map nP)), x10] (loopK J (seqK sp (ss [.frz 4, .ret (.var 4)]) (finK [.va, .va, .va, .va] R))) := by
      intro g hg
      have gl : g.length ≤ 16777216 := by
        have q1 : g.length ≤ (gA x y d.c).length := by
          rw [hg]; simp only [gB]; split
          · exact List.length_filter_le _ _
          · exact Nat.le_refl _
        have q2 : (gA x y d.c).length ≤ d.c.length := by
          simp only [gA]; split
          · exact Nat.le_trans (List.length_filter_le _ _) (by simp)
          · simp
        omega
      by_cases c1 : x = 1 ∨ y = 1
      · have := last g (by rw [goodP, hg, gC, if_neg (fun w => w.1 c1)])
        simp -implicitDefEqProofs [ni1, c1, -ix_l, -ix_t] at this ⊢
        exact this
      · by_cases c2 : 2 < z
        · have c2' : (2 : Int) < (z : Int) := by omega
          simp -implicitDefEqProofs [ni1, c1, c2', iz, -ix_l, -ix_t]
          refine comp_flt sp g nP (fun i => decide (d.c.getD (if i = 0 then d.c.length - 1 else i - 1) 0 ≠ colL x)) nP gl ?_ ?_
          · intro i hi kk k1 k2
            have il : i < d.c.length := gA_sub (gB_sub (by rw [← hg]; exact hi))
            obtain ⟨w, hw⟩ : ∃ w, w = d.c.getD (if i = 0 then d.c.length - 1 else i - 1) 0 := ⟨_, rfl⟩
            have ib : ∀ Q, ixR (.str d.c) (.int ((i : Int) - 1)) Q = Q (.str [w]) := by
              intro Q; rw [hw]; exact ixs_back il cl2
            rw [← hw] at k1 k2
            simp -implicitDefEqProofs [ib, cmpN, -ix_l, -ix_t, -List.getD_eq_getElem?_getD]
            split
            · rename_i e
              exact k2 (by simpa using e)
            · rename_i e
              exact k1 (by simpa using e)
          · have := last _ (show g.filter (fun i => decide (d.c.getD (if i = 0 then d.c.length - 1 else i - 1) 0 ≠ colL x)) = goodP z x y d.c by rw [goodP, hg, gC, if_pos ⟨c1, c2⟩])
            simp -implicitDefEqProofs [-ix_l, -ix_t, -List.getD_eq_getElem?_getD] at this ⊢
            exact this
        · have := last g (by rw [goodP, hg, gC, if_neg (fun w => c2 w.2)])
          have c2' : ¬ (2 : Int) < (z : Int) := by omega
          simp -implicitDefEqProofs [ni1, c1, c2', iz, -ix_l, -ix_t] at this ⊢
          exact this
    have stage2 : ∀ g : List Nat, g = gA x y d.c → evSs sp (ss [.iff (.and2 (.v (.cmp .notin (.cint 1) (.var 7))) (.and1 (.v (.cmp .gt (.ix (.var 0) (.cint 0)) (.cint 0))))) (ss [.asg 9 (.comp (.val (.var 9)) (.nm 10) (.some (.v (.cmp .eq (.ix (.var 6) (.var 10)) (.var 8)))) (.var 10) [10]), .frz 9]) (ss []), .iff (.and2 (.v (.cmp .notin (.cint 1) (.var 7))) (.and1 (.v (.cmp .gt (.ix (.var 0) (.cint 0)) (.cint 2))))) (ss [.asg 9 (.comp (.val (.var 9)) (.nm 10) (.some (.v (.cmp .ne (.ix (.var 6) (.bin .sub (.var 10) (.cint 1))) (.var 8)))) (.var 10) [10]), .frz 9]) (ss []), .mu .append (.nm 4) (es [.ix (.var 9) (.bin .mod (.bi1 .int (.ix (.var 0) (.bin .add (.var 1) (.var 5)))) (.bi1 .len (.var 9)))])])
        [.fz (.lst (r.map nP)), .fz (.int a), .fz (.lst (ds.map dP)), .fz (.lst (sd.map nP)), .ow (.lst (ps.map nP)), .fz (.int (k : Int)), .fz (.str d.c), .fz (.lst [.int x, .int y]), .fz (.str [colL x]), .fz (.lst (g.map nP)), x10] (loopK J (seqK sp (ss [.frz 4, .ret (.var 4)]) (finK [.va, .va, .va, .va] R))) := by
      intro g hg
      have gl : g.length ≤ 16777216 := by
        have q2 : (gA x y d.c).length ≤ d.c.length := by
          simp only [gA]; split
          · exact Nat.le_trans (List.length_filter_le _ _) (by simp)
          · simp
        rw [hg]; omega
      by_cases c1 : x = 1 ∨ y = 1
      · have := stage3 g (by rw [hg, gB, if_neg (fun w => w.1 c1)])
        rw [evSs_ss, evS_iff]
        simp -implicitDefEqProofs [ni1, c1, -evSs_ss, -ix_l, -ix_t]
        exact this
      · by_cases c2 : 0 < z
        · rw [evSs_ss, evS_iff]
          simp -implicitDefEqProofs [ni1, c1, c2, iz, -seqK_nx, -ix_l, -ix_t]
          refine comp_flt sp g nP (fun i => decide (d.c.getD i 0 = colL x)) nP gl ?_ ?_
          · intro i hi kk k1 k2
            have il : i < d.c.length := gA_sub (by rw [← hg]; exact hi)
            simp -implicitDefEqProofs [ixs_at il cl2, cmpS, -ix_l, -ix_t, -List.getD_eq_getElem?_getD]
            split
            · rename_i w
              exact k1 (by simpa using w)
            · rename_i w
              exact k2 (by simpa using w)
          · have := stage3 _ (show g.filter (fun i => decide (d.c.getD i 0 = colL x)) = gB z x y d.c (gA x y d.c) by rw [hg, gB, if_pos ⟨c1, c2⟩])
            simp -implicitDefEqProofs [-seqK_nx, -ix_l, -ix_t, -List.getD_eq_getElem?_getD]
            rw [seqK_nx]
            simp -implicitDefEqProofs [-seqK_nx, -ix_l, -ix_t, -List.getD_eq_getElem?_getD]
            exact this
        · have := stage3 g (by rw [hg, gB, if_neg (fun w => c2 w.2)])
          rw [evSs_ss, evS_iff]
          simp -implicitDefEqProofs [ni1, c1, c2, iz, -evSs_ss, -ix_l, -ix_t]
          exact this
    simp -implicitDefEqProofs [idd, -seqK_nx, -ix_l, -ix_t]
    rw [seqK_nx, evSs_ss]
    simp -implicitDefEqProofs [idd, ix, iy, -evSs_ss, -seqK_nx, -ix_l, -ix_t]
    rw [seqK_nx, evSs_ss]
    simp -implicitDefEqProofs [-evSs_ss, -seqK_nx, -ix_l, -ix_t]
    rw [seqK_nx, evSs_ss]
    simp -implicitDefEqProofs [lst0, rrb x2, -evSs_ss, -seqK_nx, -ix_l, -ix_t]
    rw [seqK_nx, evSs_ss]
    simp -implicitDefEqProofs [cl2, rangeL_0, -evSs_ss, -seqK_nx, -ix_l, -ix_t]
    refine ⟨by omega, ?_⟩
    rw [seqK_nx, evSs_ss]
    simp -implicitDefEqProofs [-evSs_ss, -seqK_nx, -ix_l, -ix_t]
    rw [seqK_nx, evSs_ss, evS_iff]
    by_cases c1 : x = 1 ∨ y = 1
    · by_cases c2 : x = 1 ∧ y = 1
      · have := stage2 (List.range d.c.length) (by rw [gA, if_neg (fun w => w.2 c2)])
        have in1' : ∀ Q : PV → Prop, cmpR .inn (.int 1) (.lst [.int (x : Int), .int (y : Int)]) Q = Q (.bl true) := fun Q => by rw [in1, decide_eq_true c1]
        have ne11' : ∀ Q : PV → Prop, cmpR .ne (.lst [.int (x : Int), .int (y : Int)]) (.lst [.int 1, .int 1]) Q = Q (.bl false) := fun Q => by rw [ne11, decide_eq_true c2]; rfl
        simp -implicitDefEqProofs [in1', ne11', -evSs_ss, -ix_l, -ix_t]
        exact this
      · obtain ⟨w, hw, w2⟩ : ∃ w : Nat, (x : Int) + (y : Int) - 1 = (w : Int) ∧ w ≤ 2 ∧ w = x + y - 1 := ⟨x + y - 1, by omega, by omega, rfl⟩
        obtain ⟨w2, w3⟩ := w2
        have c2' : ¬ x = 1 ∨ ¬ y = 1 := by omega
        have in1' : ∀ Q : PV → Prop, cmpR .inn (.int 1) (.lst [.int (x : Int), .int (y : Int)]) Q = Q (.bl true) := fun Q => by rw [in1, decide_eq_true c1]
        have ne11' : ∀ Q : PV → Prop, cmpR .ne (.lst [.int (x : Int), .int (y : Int)]) (.lst [.int 1, .int 1]) Q = Q (.bl true) := fun Q => by rw [ne11, decide_eq_false c2]; rfl
        simp -implicitDefEqProofs [in1', ne11', -evSs_ss, -ix_l, -ix_t]
        rw [evSs_ss]
        simp -implicitDefEqProofs [-evSs_ss, -seqK_nx, -ix_l, -ix_t]
        refine comp_flt sp (List.range d.c.length) nP (fun i => decide (d.c.getD i 0 ≠ colL (x + y - 1))) nP (by simp; omega) ?_ ?_
        · intro i hi kk k1 k2
          have il : i < d.c.length := by simpa using hi
          obtain ⟨v, hv⟩ : ∃ v, v = d.c.getD i 0 := ⟨_, rfl⟩
          have ib : ∀ Q, ixR (.str d.c) (.int (i : Int)) Q = Q (.str [v]) := by
            intro Q; rw [hv]; exact ixs_at il cl2
          rw [← hv, ← w3] at k1 k2
          simp -implicitDefEqProofs [ib, cmpN, lst0, lst1, hw, rrb w2, -ix_l, -ix_t]
          split
          · rename_i e
            exact k2 (by simpa using e)
          · rename_i e
            exact k1 (by simpa using e)
        · generalize hfl : (List.range d.c.length).filter (fun i => decide (d.c.getD i 0 ≠ colL (x + y - 1))) = fl
          have := stage2 fl (by rw [← hfl, gA, if_pos ⟨c1, c2⟩])
          simp -implicitDefEqProofs [-evSs_ss, -seqK_nx, -ix_l, -ix_t, -List.getD_eq_getElem?_getD]
          rw [seqK_nx, evSs_ss]
          simp -implicitDefEqProofs [-evSs_ss, -seqK_nx, -ix_l, -ix_t, -List.getD_eq_getElem?_getD]
          rw [seqK_nx, evSs_ss0, seqK_nx]
          exact this
    · have := stage2 (List.range d.c.length) (by rw [gA, if_neg (fun w => c1 w.1)])
      simp -implicitDefEqProofs [in1, ne11, c1, -evSs_ss, -ix_l, -ix_t]
      exact this
  · rintro env ⟨ps, x5, x6, x7, x8, x9, x10, rfl, pl, pm⟩
    simp
    exact hr ps pl pm
end Lt
/-! T5: hands in their parts, the scene -/
namespace Lt
open Lh
def t4__law_placed : List S := (.frz 8) :: (.ret (.tup (es [.var 8, .call j__law_marks [.va, .va, .va, .va] (es [.var 6, .bin .add (.cint 3) (.bin .mul (.cint 2) (.var 5)), .var 2, .var 3])]))) :: []
def t3__law_placed : List S := (.asg 8 (.lst (es []))) :: (.for_ (.nm 9) (.rng1 (.bi1 .len (.var 7))) (ss [.asg 11 (.comp (.rng1 (.var 1)) (.nm 12) (.some (.v (.cmp .eq (.ix (.var 3) (.var 12)) (.bin .mul (.cint 2) (.ix (.var 7) (.var 9)))))) (.var 12) [12]), .frz 11, .iff (.v (.cmp .eq (.var 11) (.lst (es [])))) (ss [.asg 11 (.comp (.rng1 (.var 1)) (.nm 12) (.some (.v (.cmp .ne (.ix (.var 3) (.var 12)) (.cint 1)))) (.var 12) [12]), .frz 11]) (ss []), .iff (.v (.cmp .ne (.var 11) (.lst (es [])))) (ss [.asg 12 (.ix (.var 11) (.bin .mod (.bi1 .int (.ix (.var 6) (.bin .add (.cint 4) (.bin .mul (.cint 2) (.var 9))))) (.bi1 .len (.var 11)))), .mu .append (.nm 8) (es [.tup (es [.ix (.cstr [82, 82, 66]) (.ix (.var 3) (.var 12)), .var 12])])]) (ss [])])) :: t4__law_placed
def t2__law_placed : List S := (.iff (.and2 (.v (.cmp .gt (.var 4) (.cint 0))) (.and1 (.v (.cmp .eq (.m1 .lcount (.var 7) (.ix (.var 7) (.cint 0))) (.bi1 .len (.var 7)))))) (ss [.asg 10 (.bin .mod (.bi1 .int (.ix (.var 6) (.cint 2))) (.bi1 .len (.var 7))), .setix (.nm 7) (.var 10) (.bin .sub (.cint 1) (.ix (.var 7) (.var 10)))]) (ss [])) :: (.frz 7) :: t3__law_placed
def t1__law_placed : List S := (.frz 6) :: (.asg 7 (.comp (.rng1 (.bin .add (.var 4) (.ix (.var 6) (.cint 1)))) (.nm 9) .none (.ix (.var 6) (.bin .add (.cint 3) (.bin .mul (.cint 2) (.var 9)))) [9])) :: t2__law_placed
theorem b__law_placed_e : b__law_placed = ss ((.asg 6 (.callO j__law_row [.va, .va] (es [.var 0, .bin .add (.bin .add (.lst (es [.cint 6, .bin .add (.bin .sub (.var 5) (.var 4)) (.cint 1), .cint 60])) (.bin .mul (.lst (es [.cint 2, .cint 60])) (.var 5))) (.bin .mul (.lst (es [.cint 60])) (.bi1 .len (.var 2)))]))) :: t1__law_placed) := rfl
section
variable {c : Int} {n l lo hi : Nat} {ds : List Dr} {sd r : List Nat} {R : PV → List OV → Prop}
/-- what is told of the scene -/
abbrev PlK (hi : Nat) (ds : List Dr) (sd : List Nat) (R : PV → List OV → Prop) : Prop := ∀ (hs : List (Nat × Nat)) (ps : List Nat), hs.length ≤ hi → (∀ q ∈ hs, ∃ x, sd[q.2]? = some x ∧ x ≠ 1 ∧ q.1 = colL x) → ps.length = ds.length → (∀ (k p : Nat) (d : Dr), ps[k]? = some p → ds[k]? = some d → p < d.c.length ∧ MarkOk sd d p) → R (.tup [.lst (hs.map hP), .lst (ps.map nP)]) []
theorem cmp_nPs_nil {ns : List Nat} {Q : PV → Prop} : cmpR .eq (.lst (ns.map nP)) (.lst []) Q = Q (.bl (decide (ns = []))) := by
  rw [cmp_eq]
  cases ns with
  | nil => simp [okEq, dataB, dataBs, eqPV, eqPVs]
  | cons a l => simp [okEq, dataB, dataBs, data_nP, eqPV, eqPVs]
theorem cmp_nPs_nnil {ns : List Nat} {Q : PV → Prop} : cmpR .ne (.lst (ns.map nP)) (.lst []) Q = Q (.bl (!decide (ns = []))) := by
  rw [cmp_ne]
  cases ns with
  | nil => simp [okEq, dataB, dataBs, eqPV, eqPVs]
  | cons a l => simp [okEq, dataB, dataBs, data_nP, eqPV, eqPVs]
theorem pl_c (P : Parts n l ds sd) (l20 : l ≤ 20) (hh : hi ≤ 20) (dl : ds.length < 100) (nl : n < 100) (rl : r.length = 3 + 2 * hi + ds.length) {w : List Nat} (wl : w.length ≤ hi) (wb : ∀ x ∈ w, x < 2) {x9 x10 x11 x12 : Slot} (hr : PlK hi ds sd R) :
    evSs sp (ss t3__law_placed) [.fz (.int c), .fz (.int n), .fz (.lst (ds.map dP)), .fz (.lst (sd.map nP)), .fz (.int lo), .fz (.int hi), .fz (.lst (r.map nP)), .fz (.lst (w.map nP)), .ow (.lst []), x9, x10, x11, x12] (finK [.va, .va, .va, .va, .va, .va] R) := by
  have hR : R62 (w.length : Int) := ⟨by omega, by omega⟩
  have hRn : R62 (n : Int) := ⟨by omega, by omega⟩
  have mo2 : MulOk 2 (hi : Int) := mulOk_l (by decide) (by decide)
  simp only [t3__law_placed]
  simp -implicitDefEqProofs [hR, rangeL_0, -ix_l, -ix_t]
  refine for_range sp w.length (fun k env => ∃ (hs : List (Nat × Nat)) (x9 x10 x11 x12 : Slot), env = [.fz (.int c), .fz (.int n), .fz (.lst (ds.map dP)), .fz (.lst (sd.map nP)), .fz (.int lo), .fz (.int hi), .fz (.lst (r.map nP)), .fz (.lst (w.map nP)), .ow (.lst (hs.map hP)), x9, x10, x11, x12] ∧ hs.length ≤ k ∧ ∀ q ∈ hs, ∃ x, sd[q.2]? = some x ∧ x ≠ 1 ∧ q.1 = colL x) ⟨[], x9, x10, x11, x12, rfl, by simp, by simp⟩ ?_ ?_
  · rintro k env J hk ⟨hs, x9, x10, x11, x12, rfl, hl, hc⟩ hJ
    obtain ⟨wk, hwk⟩ := get_ex hk
    have wkb := wb wk (mem_of_get hwk)
    have iw := fun Q => ixl_lt (f := nP) (Q := Q) hwk
    have mow : MulOk 2 (wk : Int) := mulOk_l (by decide) (by decide)
    have mok : MulOk 2 (k : Int) := mulOk_l (by decide) (by decide)
    have sdg : ∀ i, i < n → ∃ x, sd[i]? = some x := fun i hi => get_ex (by rw [P.len]; exact hi)
    have hl2 : hs.length < 16777216 := by omega
    have hk2 : k < hi := by omega
    -- behind the choice of the rooms
    have last : ∀ (g : List Nat) (x12 : Slot), (∀ i ∈ g, i < n ∧ ∀ x, sd[i]? = some x → x ≠ 1) → evSs sp (ss [.iff (.v (.cmp .ne (.var 11) (.lst (es [])))) (ss [.asg 12 (.ix (.var 11) (.bin .mod (.bi1 .int (.ix (.var 6) (.bin .add (.cint 4) (.bin .mul (.cint 2) (.var 9))))) (.bi1 .len (.var 11)))), .mu .append (.nm 8) (es [.tup (es [.ix (.cstr [82, 82, 66]) (.ix (.var 3) (.var 12)), .var 12])])]) (ss [])])
        [.fz (.int c), .fz (.int n), .fz (.lst (ds.map dP)), .fz (.lst (sd.map nP)), .fz (.int lo), .fz (.int hi), .fz (.lst (r.map nP)), .fz (.lst (w.map nP)), .ow (.lst (hs.map hP)), .fz (.int (k : Int)), x10, .fz (.lst (g.map nP)), x12] (loopK J (seqK sp (ss t4__law_placed) (finK [.va, .va, .va, .va, .va, .va] R))) := by
      intro g x12 hg
      by_cases ge : g = []
      · subst ge
        have : ∀ Q : PV → Prop, cmpR .ne (.lst []) (.lst []) Q = Q (.bl false) := fun Q => cmp_ne_nilnil
        simp -implicitDefEqProofs [this, -ix_l, -ix_t]
        exact hJ _ ⟨hs, .fz (.int (k : Nat)), x10, .fz (.lst []), x12, by simp, by omega, hc⟩
      · have gl : 0 < g.length := List.length_pos_iff.mpr ge
        obtain ⟨v, hv⟩ := get_ex (xs := r) (k := 4 + 2 * k) (by omega)
        have iv := ixl_i (f := nP) hv (show (4 : Int) + 2 * (k : Int) = ((4 + 2 * k : Nat) : Int) by omega)
        have g1 := Int.emod_nonneg (v : Int) (b := (g.length : Int)) (by omega)
        have g2 := Int.emod_lt_of_pos (v : Int) (b := (g.length : Int)) (by omega)
        obtain ⟨u, hu⟩ : ∃ u : Nat, (v : Int) % (g.length : Int) = (u : Int) := ⟨((v : Int) % (g.length : Int)).toNat, by omega⟩
        obtain ⟨p, hp⟩ := get_ex (xs := g) (k := u) (by omega)
        have ip := ixl_i (f := nP) hp hu
        obtain ⟨pn, px⟩ := hg p (mem_of_get hp)
        obtain ⟨x, hx⟩ := sdg p pn
        have x2 := P.two x (mem_of_get hx)
        have ne : ∀ Q : PV → Prop, cmpR .ne (.lst (g.map nP)) (.lst []) Q = Q (.bl true) := fun Q => by rw [cmp_nPs_nnil, decide_eq_false ge]; rfl
        simp -implicitDefEqProofs [ne, mok, iv, ip, gl, hl2, ixl_lt hx, rrb x2, -ix_l, -ix_t]
        refine hJ _ ⟨hs ++ [(colL x, p)], .fz (.int (k : Nat)), x10, .fz (.lst (g.map nP)), .fz (.int p), by simp [hP], by simp; omega, ?_⟩
        intro q hq
        rcases List.mem_append.mp hq with h | h
        · exact hc q h
        · rw [List.mem_singleton.mp h]
          exact ⟨x, hx, px x hx, rfl⟩
    have cmpI : ∀ (u v : Nat) (Q : PV → Prop), cmpR .eq (.int (u : Int)) (.int (2 * (v : Int))) Q = Q (.bl (decide (u = 2 * v))) := by
      intro u v Q
      have e : decide ((u : Int) = 2 * (v : Int)) = decide (u = 2 * v) := decide_eq_decide.mpr (by omega)
      simp [cmp_eq, okEq, scalP, eqPV, e]
    have cmpN1 : ∀ (u : Nat) (Q : PV → Prop), cmpR .ne (.int (u : Int)) (.int 1) Q = Q (.bl (!decide (u = 1))) := by
      intro u Q
      have e : decide ((u : Int) = 1) = decide (u = 1) := decide_eq_decide.mpr (by omega)
      simp [cmp_ne, okEq, scalP, eqPV, e]
    simp -implicitDefEqProofs [hRn, rangeL_0, -seqK_nx, -ix_l, -ix_t]
    generalize hg1 : (List.range n).filter (fun i => decide (sd.getD i 1 = 2 * wk)) = g1
    refine comp_flt sp (List.range n) _ (fun i => decide (sd.getD i 1 = 2 * wk)) nP (by simp; omega) ?_ ?_
    · intro i hi kk k1 k2
      have hi' : i < n := by simpa using hi
      obtain ⟨x, hx⟩ := sdg i hi'
      have gx : sd.getD i 1 = x := by rw [List.getD_eq_getElem?_getD, hx]; rfl
      rw [gx] at k1 k2
      simp -implicitDefEqProofs [ixl_lt hx, iw, mow, cmpI, -ix_l, -ix_t]
      split
      · rename_i e
        exact k1 (by simpa using e)
      · rename_i e
        exact k2 (by simpa using e)
    · rw [hg1]
      have m1 : ∀ i ∈ g1, i < n ∧ ∀ x, sd[i]? = some x → x ≠ 1 := by
        intro i hi
        rw [← hg1, List.mem_filter] at hi
        obtain ⟨q1, q2⟩ := hi
        refine ⟨by simpa using q1, fun x hx => ?_⟩
        have gx : sd.getD i 1 = x := by rw [List.getD_eq_getElem?_getD, hx]; rfl
        have := of_decide_eq_true q2
        omega
      simp -implicitDefEqProofs [-seqK_nx, -ix_l, -ix_t]
      rw [seqK_nx, evSs_ss]
      simp -implicitDefEqProofs [-evSs_ss, -seqK_nx, -ix_l, -ix_t]
      rw [seqK_nx, evSs_ss, evS_iff]
      by_cases ge : g1 = []
      · have eq : ∀ Q : PV → Prop, cmpR .eq (.lst (g1.map nP)) (.lst []) Q = Q (.bl true) := fun Q => by rw [cmp_nPs_nil, decide_eq_true ge]
        simp -implicitDefEqProofs [eq, -evSs_ss, -seqK_nx, -ix_l, -ix_t]
        rw [evSs_ss]
        simp -implicitDefEqProofs [hRn, rangeL_0, -evSs_ss, -seqK_nx, -ix_l, -ix_t]
        generalize hg2 : (List.range n).filter (fun i => !decide (sd.getD i 1 = 1)) = g2
        refine comp_flt sp (List.range n) _ (fun i => !decide (sd.getD i 1 = 1)) nP (by simp; omega) ?_ ?_
        · intro i hi kk k1 k2
          have hi' : i < n := by simpa using hi
          obtain ⟨x, hx⟩ := sdg i hi'
          have gx : sd.getD i 1 = x := by rw [List.getD_eq_getElem?_getD, hx]; rfl
          rw [gx] at k1 k2
          simp -implicitDefEqProofs [ixl_lt hx, cmpN1, -ix_l, -ix_t]
          split
          · rename_i e
            exact k2 (by simpa using e)
          · rename_i e
            exact k1 (by simpa using e)
        · rw [hg2]
          have m2 : ∀ i ∈ g2, i < n ∧ ∀ x, sd[i]? = some x → x ≠ 1 := by
            intro i hi
            rw [← hg2, List.mem_filter] at hi
            obtain ⟨q1, q2⟩ := hi
            refine ⟨by simpa using q1, fun x hx => ?_⟩
            have gx : sd.getD i 1 = x := by rw [List.getD_eq_getElem?_getD, hx]; rfl
            rw [gx] at q2
            simpa using q2
          simp -implicitDefEqProofs [-evSs_ss, -seqK_nx, -ix_l, -ix_t]
          rw [seqK_nx, evSs_ss]
          simp -implicitDefEqProofs [-evSs_ss, -seqK_nx, -ix_l, -ix_t]
          rw [seqK_nx, evSs_ss0, seqK_nx]
          exact last g2 _ m2
      · have eq : ∀ Q : PV → Prop, cmpR .eq (.lst (g1.map nP)) (.lst []) Q = Q (.bl false) := fun Q => by rw [cmp_nPs_nil, decide_eq_false ge]
        simp -implicitDefEqProofs [eq, -evSs_ss, -seqK_nx, -ix_l, -ix_t]
        rw [seqK_nx]
        exact last g1 _ m1
  · rintro env ⟨hs, x9, x10, x11, x12, rfl, hl, hc⟩
    simp only [t4__law_placed]
    simp -implicitDefEqProofs [mo2, -ix_l, -ix_t]
    rw [sp__law_marks]
    refine ⟨r, 3 + 2 * hi, n, l, ds, sd, by simp, ⟨P, l20, by omega, by omega, dl⟩, fun ps p1 p2 => ?_⟩
    simp -implicitDefEqProofs [-ix_l]
    exact hr hs ps (by omega) hc p1 p2
theorem pl_b (P : Parts n l ds sd) (l20 : l ≤ 20) (hh : hi ≤ 20) (dl : ds.length < 100) (nl : n < 100) (rl : r.length = 3 + 2 * hi + ds.length) {w : List Nat} (wl : w.length ≤ hi) (wlo : lo ≤ w.length) (wb : ∀ x ∈ w, x < 2) {x8 x9 x10 x11 x12 : Slot} (hr : PlK hi ds sd R) :
    evSs sp (ss t2__law_placed) [.fz (.int c), .fz (.int n), .fz (.lst (ds.map dP)), .fz (.lst (sd.map nP)), .fz (.int lo), .fz (.int hi), .fz (.lst (r.map nP)), .ow (.lst (w.map nP)), x8, x9, x10, x11, x12] (finK [.va, .va, .va, .va, .va, .va] R) := by
  have go : ∀ (w : List Nat) (x10 : Slot), w.length ≤ hi → (∀ x ∈ w, x < 2) → evSs sp (ss t3__law_placed) [.fz (.int c), .fz (.int n), .fz (.lst (ds.map dP)), .fz (.lst (sd.map nP)), .fz (.int lo), .fz (.int hi), .fz (.lst (r.map nP)), .fz (.lst (w.map nP)), x8, x9, x10, x11, x12] (finK [.va, .va, .va, .va, .va, .va] R) := by
    intro w x10 wl wb
    have := pl_c (c := c) (lo := lo) (x9 := x9) (x10 := x10) (x11 := x11) (x12 := x12) P l20 hh dl nl rl wl wb hr
    simp only [t3__law_placed] at this ⊢
    rw [evSs_ss] at this ⊢
    simp -implicitDefEqProofs [-seqK_nx, -ix_l, -ix_t] at this ⊢
    exact this
  simp only [t2__law_placed]
  rw [evSs_ss, evS_iff]
  by_cases l0 : lo = 0
  · subst l0
    simp -implicitDefEqProofs [-evSs_ss, -seqK_nx, -ix_l, -ix_t]
    rw [seqK_nx, evSs_ss]
    simp -implicitDefEqProofs [-evSs_ss, -ix_l, -ix_t]
    exact go w x10 wl wb
  · have lp : 0 < lo := by omega
    obtain ⟨w0, hw0⟩ := get_ex (xs := w) (k := 0) (by omega)
    have iw0 := ixl_i (f := nP) hw0 (show (0 : Int) = ((0 : Nat) : Int) from rfl)
    simp -implicitDefEqProofs [lp, iw0, intsOf_nP, cmp_eq, okEq, scalP, eqPV, -evSs_ss, -seqK_nx, -ix_l, -ix_t]
    split
    · rename_i e
      obtain ⟨v, hv⟩ := get_ex (xs := r) (k := 2) (by omega)
      have iv := ixl_i (f := nP) hv (show (2 : Int) = ((2 : Nat) : Int) from rfl)
      have g1 := Int.emod_nonneg (v : Int) (b := (w.length : Int)) (by omega)
      have g2 := Int.emod_lt_of_pos (v : Int) (b := (w.length : Int)) (by omega)
      obtain ⟨u, hu⟩ : ∃ u : Nat, (v : Int) % (w.length : Int) = (u : Int) := ⟨((v : Int) % (w.length : Int)).toNat, by omega⟩
      have ul : u < w.length := by omega
      obtain ⟨y, hy⟩ := get_ex ul
      have y2 := wb y (mem_of_get hy)
      have iy := fun Q => ixl_lt (f := nP) (Q := Q) hy
      have wp : 0 < w.length := by omega
      have e1 : (1 : Int) - y = ((1 - y : Nat) : Int) := by omega
      have := go (w.set u (1 - y)) (.fz (.int (u : Int))) (by simpa using wl) (by
        intro x hx
        rcases List.mem_or_eq_of_mem_set hx with h | h
        · exact wb x h
        · omega)
      rw [List.map_set] at this
      simp only [nP_e] at this
      rw [evSs_ss]
      simp -implicitDefEqProofs [iv, hu, wp, ul, iy, e1, -evSs_ss, -seqK_nx, -ix_l, -ix_t]
      rw [seqK_nx, evSs_ss]
      simp -implicitDefEqProofs [hu, wp, ul, iy, e1, -evSs_ss, -seqK_nx, -ix_l, -ix_t]
      rw [seqK_nx, evSs_ss0, seqK_nx, evSs_ss]
      simp -implicitDefEqProofs [-evSs_ss, -ix_l, -ix_t]
      exact this
    · rename_i e
      rw [seqK_nx, evSs_ss]
      simp -implicitDefEqProofs [-evSs_ss, -ix_l, -ix_t]
      exact go w x10 wl wb
end
theorem flat_two : ∀ (m k : Nat), k < m → (List.replicate m [2, 60]).flatten[2 * k]? = some 2
  | 0, k, h => by omega
  | m + 1, 0, _ => by simp [List.replicate_succ]
  | m + 1, k + 1, h => by
    rw [List.replicate_succ, List.flatten_cons, List.getElem?_append_right (by simp; omega)]
    rw [show 2 * (k + 1) - [2, 60].length = 2 * k by simp; omega]
    exact flat_two m k (by omega)
theorem flat_len : ∀ m : Nat, (List.replicate m [2, 60]).flatten.length = 2 * m
  | 0 => rfl
  | m + 1 => by
    rw [List.replicate_succ, List.flatten_cons, List.length_append, flat_len m]; simp; omega
theorem ev__law_placed : ∀ ts R, s__law_placed ts R → evD sp [.va, .va, .va, .va, .va, .va] 13 b__law_placed ts R := by
  rintro ts R ⟨c, n, l, lo, hi, ds, sd, rfl, ⟨P, l20, lh, hh, dl, nl⟩, hr⟩
  refine evD_of sp rfl rfl ?_
  have fm : (List.replicate hi [PV.int 2, PV.int 60]).flatten = ((List.replicate hi [2, 60]).flatten).map nP := by
    rw [List.map_flatten, List.map_replicate]; rfl
  have lo1 : (hi : Int) - lo + 1 = ((hi - lo + 1 : Nat) : Int) := by omega
  have fl := flat_len hi
  have dl2 : ds.length ≤ 16777216 := by omega
  simp only [b__law_placed_e]
  rw [evSs_ss]
  simp -implicitDefEqProofs [fm, lo1, dl2, fl, -seqK_nx, -ix_l, -ix_t, -List.map_flatten]
  refine ⟨by omega, by omega, by omega, by omega, ?_⟩
  rw [sp__law_row]
  refine ⟨c, [6, hi - lo + 1, 60] ++ (List.replicate hi [2, 60]).flatten ++ List.replicate ds.length 60, by simp only [List.map_append, List.map_cons, List.map_nil, List.append_assoc, List.cons_append, List.nil_append, List.map_replicate]; rfl, ⟨by simp; omega, ?_⟩, ?_⟩
  · intro x hx
    simp only [List.mem_append, List.mem_cons, List.mem_flatten, List.mem_replicate] at hx
    rcases hx with (hx | ⟨z, ⟨_, rfl⟩, hx⟩) | hx
    · simp at hx; omega
    · simp at hx; omega
    · omega
  intro r rl rb
  have rl2 : r.length = 3 + 2 * hi + ds.length := by rw [rl]; simp; omega
  obtain ⟨z, hz⟩ := get_ex (xs := r) (k := 1) (by omega)
  have zb := rb 1 z (hi - lo + 1) hz rfl
  have iz := ixl_i (f := nP) hz (show (1 : Int) = ((1 : Nat) : Int) from rfl)
  have b2 : ∀ k x, k < hi → r[3 + 2 * k]? = some x → x < 2 := by
    intro k x hk hx
    refine rb _ x 2 hx ?_
    rw [List.getElem?_append_left (by simp; omega), List.getElem?_append_right (by simp)]
    rw [show 3 + 2 * k - [6, hi - lo + 1, 60].length = 2 * k by simp]
    exact flat_two hi k hk
  have hR : R62 ((lo : Int) + z) := ⟨by omega, by omega⟩
  have hT : ((lo : Int) + z).toNat = lo + z := by omega
  simp -implicitDefEqProofs [-evSs_ss, -seqK_nx, -ix_l, -ix_t]
  rw [seqK_nx]
  simp only [t1__law_placed]
  rw [evSs_ss]
  simp -implicitDefEqProofs [-evSs_ss, -seqK_nx, -ix_l, -ix_t]
  rw [seqK_nx, evSs_ss]
  simp -implicitDefEqProofs [iz, hR, hT, rangeL_0, -evSs_ss, -seqK_nx, -ix_l, -ix_t]
  refine comp_map sp (List.range (lo + z)) _ (fun k => nP (r.getD (3 + 2 * k) 0)) (by simp; omega) ?_ ?_
  · intro k hk kk hkk
    have hk' : k < lo + z := by simpa using hk
    obtain ⟨x, hx⟩ := get_ex (xs := r) (k := 3 + 2 * k) (by omega)
    have gx : r.getD (3 + 2 * k) 0 = x := by rw [List.getD_eq_getElem?_getD, hx]; rfl
    rw [gx] at hkk
    have ix := ixl_i (f := nP) hx (show (3 : Int) + 2 * (k : Int) = ((3 + 2 * k : Nat) : Int) by omega)
    have mo : MulOk 2 (k : Int) := mulOk_l (by decide) (by decide)
    simp -implicitDefEqProofs [mo, ix, -ix_l, -ix_t]
    exact hkk
  · have em : (List.range (lo + z)).map (fun k => nP (r.getD (3 + 2 * k) 0)) = ((List.range (lo + z)).map fun k => r.getD (3 + 2 * k) 0).map nP := by rw [List.map_map]; rfl
    rw [em]
    generalize hw : (List.range (lo + z)).map (fun k => r.getD (3 + 2 * k) 0) = w
    have wl : w.length = lo + z := by rw [← hw]; simp
    simp -implicitDefEqProofs [-evSs_ss, -seqK_nx, -ix_l, -ix_t]
    rw [seqK_nx]
    refine pl_b P l20 hh dl nl rl2 (by omega) (by omega) ?_ hr
    intro x hx
    rw [← hw] at hx
    obtain ⟨k, hk, rfl⟩ := List.mem_map.mp hx
    have hk' : k < lo + z := by simpa using hk
    obtain ⟨x, hx⟩ := get_ex (xs := r) (k := 3 + 2 * k) (by omega)
    have gx : r.getD (3 + 2 * k) 0 = x := by rw [List.getD_eq_getElem?_getD, hx]; rfl
    rw [gx]
    exact b2 k x (by omega) hx
end Lt
/-! T6: the scene; dead standings -/
namespace Lt
open Lh
/-- the parts make a standing dead -/
theorem Parts.dead {n l : Nat} {ds : List Dr} {sd : List Nat} {hs : List (Nat × Nat)} {ps : List Nat} (P : Parts n l ds sd) (l20 : l ≤ 20) (n10 : n ≤ 10) (dl : ds.length ≤ 20) (hl : hs.length ≤ 6) (C : Conn n ds)
    (hc : ∀ q ∈ hs, ∃ x, sd[q.2]? = some x ∧ x ≠ 1 ∧ q.1 = colL x) (pl : ps.length = ds.length) (pm : ∀ (k p : Nat) (d : Dr), ps[k]? = some p → ds[k]? = some d → p < d.c.length ∧ MarkOk sd d p) : Dead ⟨n, ds, [82, 66]⟩ ⟨hs, ps⟩ := by
  have col : ∀ x, colL x = 82 ∨ colL x = 66 := by
    intro x; simp only [colL]; split
    · exact .inr rfl
    · exact .inl rfl
  have H : HsOk ⟨n, ds, [82, 66]⟩ := by
    refine ⟨P.pos, by simp only; omega, by simp only; omega, (show TrOk [82, 66] from ⟨by decide, by decide, by decide, by decide⟩), ?_, C⟩
    intro d hd
    obtain ⟨a, b, c, cy⟩ := P.dr d hd
    refine ⟨a, b, c, fun x hx => ?_, fun x hx => ?_, by have := cy.len; omega⟩
    · rcases cy.all x hx with h | h <;> simp [h]
    · simp at hx
      rcases hx with rfl | rfl
      · exact cy.r
      · exact cy.b
  have S : StOk ⟨n, ds, [82, 66]⟩ ⟨hs, ps⟩ := by
    refine ⟨pl, fun k p d h1 h2 => (pm k p d h1 h2).1, fun q hq => ?_, fun q hq => ?_, by simp only; omega⟩
    · obtain ⟨x, _, _, e⟩ := hc q hq
      right
      rw [e]
      rcases col x with h | h <;> simp [h]
    · obtain ⟨x, e, _, _⟩ := hc q hq
      have := lt_of_get e
      rw [P.len] at this
      exact this
  refine ⟨H, rfl, S, fun q hq => ?_, ?_⟩
  · obtain ⟨x, _, _, e⟩ := hc q hq
    rw [e]
    rcases col x with h | h <;> rw [h] <;> decide
  -- the reds stay in the rooms of the side 0, the blues in those of the side 2
  have stay : ∀ t s, (t = 82 ∧ s = 0) ∨ (t = 66 ∧ s = 2) → ∀ i, reach (zOf ⟨n, ds, [82, 66]⟩ ⟨hs, ps⟩) t (roomsOf hs t) i → sd[i]? = some s := by
    intro t s hts i ⟨r, hr, k, p⟩
    obtain ⟨j, hj⟩ := mem_roomsOf.mp hr
    have base : sd[r]? = some s := by
      obtain ⟨x, e1, e2, e3⟩ := hc _ (mem_of_get hj)
      simp only at e1 e3
      have x2 := P.two x (mem_of_get e1)
      rw [e1]
      rcases hts with ⟨rfl, rfl⟩ | ⟨rfl, rfl⟩
      · simp only [colL] at e3
        split at e3
        · cases e3
        · congr 1; omega
      · simp only [colL] at e3
        split at e3
        · congr 1
        · cases e3
    -- the way goes from i to r
    have step : ∀ x y, Adj (zOf ⟨n, ds, [82, 66]⟩ ⟨hs, ps⟩) t x y → sd[y]? = some s → sd[x]? = some s := by
      rintro x y ⟨⟨u, d⟩, hq, e, hxy⟩ hy
      simp only at e hxy
      subst e
      obtain ⟨j, hj⟩ := List.getElem?_of_mem hq
      obtain ⟨g1, p, g2, g3⟩ := zOf_get.mp hj
      obtain ⟨da, db, dne, cy⟩ := P.dr d (mem_of_get g1)
      obtain ⟨q1, q2⟩ := pm j p d g2 g1
      obtain ⟨xa, ha⟩ := get_ex (xs := sd) (k := d.a) (by rw [P.len]; exact da)
      obtain ⟨xb, hb⟩ := get_ex (xs := sd) (k := d.b) (by rw [P.len]; exact db)
      have a2 := P.two xa (mem_of_get ha)
      have b2 := P.two xb (mem_of_get hb)
      have cp := P.cp d (mem_of_get g1) xa xb ha hb
      obtain ⟨m1, m2⟩ := q2 xa xb ha hb
      have lt : lightOf 0 d p = d.c.getD p 0 := by
        simp only [lightOf, Int.sub_zero]
        congr 1
        have : (p : Int) % (d.c.length : Int) = p := Int.emod_eq_of_lt (by omega) (by omega)
        rw [this]; simp
      rw [lt] at g3
      rw [← g3] at m1 m2
      have cs : u = colL s := by
        rcases hts with ⟨rfl, rfl⟩ | ⟨rfl, rfl⟩ <;> rfl
      have s1 : s ≠ 1 := by
        rcases hts with ⟨_, rfl⟩ | ⟨_, rfl⟩ <;> decide
      rcases hxy with ⟨w1, w2⟩ | ⟨w1, w2⟩
      · -- x is the first end
        rw [← w2, hb] at hy
        cases hy
        rw [← w1, ha]
        congr 1
        by_cases z : xa = 1
        · exact absurd cs (m1 z s1)
        · omega
      · rw [← w1, ha] at hy
        cases hy
        rw [← w2, hb]
        congr 1
        by_cases z : xb = 1
        · exact absurd cs (m2 z s1)
        · omega
    induction p with
    | nil => exact base
    | cons a _ ih => exact step _ _ a (ih hr hj base)
  apply Classical.byContradiction
  intro ne
  obtain ⟨m, _, h1, h2⟩ := shared_ne.mp ne
  have e1 := stay 82 0 (.inl ⟨rfl, rfl⟩) m h1
  have e2 := stay 66 2 (.inr ⟨rfl, rfl⟩) m h2
  rw [e1] at e2
  cases e2
def t2__law_scene : List S := (.frz 3) :: (.tgt (.tp [.nm 7, .nm 8]) (.call j__law_placed [.va, .va, .va, .va, .va, .va] (es [.call j__law_far [.va, .va] (es [.var 0, .cint 4]), .var 5, .var 6, .var 3, .cint 0, .cint 6]))) :: (.ret (.tup (es [.var 5, .var 6, .var 7, .var 8]))) :: []
def t1__law_scene : List S := (.tgt (.tp [.nm 5, .nm 6]) (.call j__law_house [.va, .va, .va, .va, .va] (es [.call j__law_far [.va, .va] (es [.var 0, .cint 0]), .ix (.var 2) (.cint 0), .ix (.var 2) (.cint 1), .ix (.var 2) (.cint 2), .cbl false]))) :: (.asg 3 (.callO j__law_row [.va, .va] (es [.call j__law_far [.va, .va] (es [.var 0, .cint 2]), .bin .mul (.lst (es [.cint 3])) (.var 5)]))) :: (.for_ (.nm 4) (.val (.var 6)) (ss [.iff (.and2 (.v (.cmp .ne (.ix (.var 3) (.ix (.var 4) (.cint 0))) (.cint 1))) (.and1 (.v (.cmp .eq (.bin .add (.ix (.var 3) (.ix (.var 4) (.cint 0))) (.ix (.var 3) (.ix (.var 4) (.cint 1)))) (.cint 2))))) (ss [.setix (.nm 3) (.ix (.var 4) (.cint 1)) (.cint 1)]) (ss [])])) :: t2__law_scene
theorem b__law_scene_e : b__law_scene = ss ((.iff (.not (.v (.var 1))) (ss [.tgt (.tp [.nm 5, .nm 6, .nm 3]) (.call j__law_two_parts [.va, .va, .va] (es [.call j__law_far [.va, .va] (es [.var 0, .cint 0]), .ix (.var 2) (.cint 1), .ix (.var 2) (.cint 2)])), .tgt (.tp [.nm 7, .nm 8]) (.call j__law_placed [.va, .va, .va, .va, .va, .va] (es [.call j__law_far [.va, .va] (es [.var 0, .cint 4]), .var 5, .var 6, .var 3, .cint 2, .cint 6])), .ret (.tup (es [.var 5, .var 6, .var 7, .var 8]))]) (ss [])) :: t1__law_scene) := rfl
/-- the sides, made fit -/
structure FixI (n : Nat) (ds : List Dr) (k : Nat) (sd : List Nat) : Prop where
  len : sd.length = n
  two : ∀ x ∈ sd, x ≤ 2
  cp : ∀ j d, j < k → ds[j]? = some d → Compat sd d
theorem ev__law_scene : ∀ ts R, s__law_scene ts R → evD sp [.va, .va, .va] 9 b__law_scene ts R := by
  rintro ts R ⟨ns, fr, m, e, l, rfl, ⟨m1, m10, e3, l2, l20⟩, hr⟩
  refine evD_of sp rfl rfl ?_
  have far : ∀ (a : Int) (K : PV → List OV → Prop), 0 ≤ a → a < 1000 → (∀ c : Int, K (.int c) []) → sp j__law_far [.fz (.ro (ns.map .int)), .fz (.int a)] K := by
    intro a K q0 q1 hK
    rw [sp__law_far]
    exact ⟨ns, a, rfl, ⟨q0, q1⟩, hK⟩
  simp only [b__law_scene_e]
  rw [evSs_ss, evS_iff]
  cases fr with
  | false =>
    simp -implicitDefEqProofs [-evSs_ss, -seqK_nx, -ix_l, -ix_t]
    rw [evSs_ss]
    simp -implicitDefEqProofs [-evSs_ss, -seqK_nx, -ix_l, -ix_t]
    refine far _ _ (by decide) (by decide) fun c0 => ?_
    simp -implicitDefEqProofs [ix0, ix1, ix2, -evSs_ss, -seqK_nx, -ix_l, -ix_t]
    rw [sp__law_two_parts]
    refine ⟨c0, e, l, rfl, ⟨e3, l2, l20⟩, fun n ds sd n8 dl P C => ?_⟩
    simp -implicitDefEqProofs [-evSs_ss, -seqK_nx, -ix_l, -ix_t]
    rw [seqK_nx, evSs_ss]
    simp -implicitDefEqProofs [-evSs_ss, -seqK_nx, -ix_l, -ix_t]
    refine far _ _ (by decide) (by decide) fun c4 => ?_
    simp -implicitDefEqProofs [-evSs_ss, -seqK_nx, -ix_l, -ix_t]
    rw [sp__law_placed]
    refine ⟨c4, n, l, 2, 6, ds, sd, rfl, ⟨P, l20, by decide, by decide, by omega, by omega⟩, fun hs ps h1 h2 h3 h4 => ?_⟩
    simp -implicitDefEqProofs [-ix_l, -ix_t]
    exact hr ⟨n, ds, [82, 66]⟩ ⟨hs, ps⟩ (P.dead l20 (by omega) (by omega) h1 C h2 h3 h4) (by simp only; omega) (by simp only; omega) (by simp only; omega)
  | true =>
    simp -implicitDefEqProofs [-evSs_ss, -seqK_nx, -ix_l, -ix_t]
    rw [seqK_nx]
    simp only [t1__law_scene]
    rw [evSs_ss]
    simp -implicitDefEqProofs [-evSs_ss, -seqK_nx, -ix_l, -ix_t]
    refine far _ _ (by decide) (by decide) fun c0 => ?_
    simp -implicitDefEqProofs [ix0, ix1, ix2, -evSs_ss, -seqK_nx, -ix_l, -ix_t]
    rw [sp__law_house]
    refine ⟨c0, m, e, l, rfl, ⟨m1, m10, e3, l2, l20⟩, fun n ds n1 nm dl dk C => ?_⟩
    simp -implicitDefEqProofs [-evSs_ss, -seqK_nx, -ix_l, -ix_t]
    rw [seqK_nx, evSs_ss]
    simp -implicitDefEqProofs [-evSs_ss, -seqK_nx, -ix_l, -ix_t]
    refine far _ _ (by decide) (by decide) fun c2 => ?_
    simp -implicitDefEqProofs [-evSs_ss, -seqK_nx, -ix_l, -ix_t]
    refine ⟨by omega, ?_⟩
    rw [sp__law_row]
    refine ⟨c2, List.replicate n 3, by simp, ⟨by simp; omega, fun x hx => by rw [List.eq_of_mem_replicate hx]; decide⟩, fun sd0 sl sb => ?_⟩
    rw [List.length_replicate] at sl
    have s2 : ∀ x ∈ sd0, x ≤ 2 := by
      intro x hx
      obtain ⟨k, hk⟩ := List.getElem?_of_mem hx
      have := lt_of_get hk
      have := sb k x 3 hk (by rw [List.getElem?_replicate, if_pos (by omega)])
      omega
    simp -implicitDefEqProofs [-evSs_ss, -seqK_nx, -ix_l, -ix_t]
    rw [seqK_nx, evSs_ss]
    simp -implicitDefEqProofs [-evSs_ss, -seqK_nx, -ix_l, -ix_t]
    refine for_map sp ds dP (fun k env => ∃ (sd : List Nat) (x4 : Slot), env = [.fz (.ro (ns.map .int)), .fz (.bl true), .fz (.tup [.int m, .int e, .int l]), .ow (.lst (sd.map nP)), x4, .fz (.int n), .fz (.lst (ds.map dP)), .u, .u] ∧ FixI n ds k sd) ⟨sd0, _, rfl, ⟨sl, s2, fun j d hj => by omega⟩⟩ ?_ ?_
    · rintro k d env J hd ⟨sd, x4, rfl, F⟩ hJ
      obtain ⟨da, db, dne, cy⟩ := dk d (mem_of_get hd)
      have fl := F.len
      obtain ⟨x, hx⟩ := get_ex (xs := sd) (k := d.a) (by omega)
      obtain ⟨y, hy⟩ := get_ex (xs := sd) (k := d.b) (by omega)
      have x2 := F.two x (mem_of_get hx)
      have y2 := F.two y (mem_of_get hy)
      have ix := fun Q => ixl_lt (f := nP) (Q := Q) hx
      have iy := fun Q => ixl_lt (f := nP) (Q := Q) hy
      have dbl : d.b < sd.length := by omega
      have bxI : decide ((x : Int) = 1) = decide (x = 1) := decide_eq_decide.mpr (by omega)
      have bxyI : decide ((x : Int) + (y : Int) = 2) = decide (x + y = 2) := decide_eq_decide.mpr (by omega)
      have keep : ¬ ((x = 0 ∧ y = 2) ∨ (x = 2 ∧ y = 0)) → J [.fz (.ro (ns.map .int)), .fz (.bl true), .fz (.tup [.int m, .int e, .int l]), .ow (.lst (sd.map nP)), .fz (dP d), .fz (.int n), .fz (.lst (ds.map dP)), .u, .u] := by
        intro hn
        refine hJ _ ⟨sd, .fz (dP d), rfl, ⟨fl, F.two, fun j d' hj hd' => ?_⟩⟩
        by_cases ej : j = k
        · subst ej
          rw [hd] at hd'
          cases hd'
          intro u v hu hv
          rw [hx] at hu; cases hu
          rw [hy] at hv; cases hv
          exact ⟨fun z => hn (.inl z), fun z => hn (.inr z)⟩
        · exact F.cp j d' (by omega) hd'
      have nx : ∀ Q : PV → Prop, cmpR .ne (.int (x : Int)) (.int 1) Q = Q (.bl (!decide (x = 1))) := by
        intro Q; simp [cmp_ne, okEq, scalP, eqPV, bxI]
      have sm : ∀ Q : PV → Prop, cmpR .eq (.int ((x : Int) + (y : Int))) (.int 2) Q = Q (.bl (decide (x + y = 2))) := by
        intro Q; simp [cmp_eq, okEq, scalP, eqPV, bxyI]
      by_cases c1 : x = 1
      · have nx' : ∀ Q : PV → Prop, cmpR .ne (.int (x : Int)) (.int 1) Q = Q (.bl false) := fun Q => by rw [nx, decide_eq_true c1]; rfl
        simp -implicitDefEqProofs [ix, iy, nx', -ix_l, -ix_t]
        exact keep (by omega)
      · have nx' : ∀ Q : PV → Prop, cmpR .ne (.int (x : Int)) (.int 1) Q = Q (.bl true) := fun Q => by rw [nx, decide_eq_false c1]; rfl
        by_cases c2 : x + y = 2
        · have sm' : ∀ Q : PV → Prop, cmpR .eq (.int ((x : Int) + (y : Int))) (.int 2) Q = Q (.bl true) := fun Q => by rw [sm, decide_eq_true c2]
          simp -implicitDefEqProofs [ix, iy, nx', sm', dbl, -ix_l, -ix_t]
          refine hJ _ ⟨sd.set d.b 1, .fz (dP d), by simp, ⟨by simpa using fl, ?_, ?_⟩⟩
          · intro z hz
            rcases List.mem_or_eq_of_mem_set hz with h | h
            · exact F.two z h
            · omega
          · intro j d' hj hd' u v hu hv
            by_cases eb : d.b = d'.b
            · rw [← eb, List.getElem?_set_self dbl] at hv
              cases hv
              exact ⟨fun z => by omega, fun z => by omega⟩
            · by_cases ea : d.b = d'.a
              · rw [← ea, List.getElem?_set_self dbl] at hu
                cases hu
                exact ⟨fun z => by omega, fun z => by omega⟩
              · rw [List.getElem?_set_ne ea] at hu
                rw [List.getElem?_set_ne eb] at hv
                by_cases ej : j = k
                · subst ej
                  rw [hd] at hd'
                  cases hd'
                  exact absurd rfl eb
                · exact F.cp j d' (by omega) hd' u v hu hv
        · have sm' : ∀ Q : PV → Prop, cmpR .eq (.int ((x : Int) + (y : Int))) (.int 2) Q = Q (.bl false) := fun Q => by rw [sm, decide_eq_false c2]
          simp -implicitDefEqProofs [ix, iy, nx', sm', -ix_l, -ix_t]
          exact keep (by omega)
    · rintro env ⟨sd, x4, rfl, F⟩
      have P : Parts n l ds sd := by
        refine ⟨n1, dk, F.len, F.two, fun d hd => ?_⟩
        obtain ⟨j, hj⟩ := List.getElem?_of_mem hd
        exact F.cp j d (lt_of_get hj) hj
      simp only [t2__law_scene]
      rw [seqK_nx, evSs_ss]
      simp -implicitDefEqProofs [-evSs_ss, -seqK_nx, -ix_l, -ix_t]
      rw [seqK_nx, evSs_ss]
      simp -implicitDefEqProofs [-evSs_ss, -seqK_nx, -ix_l, -ix_t]
      refine far _ _ (by decide) (by decide) fun c4 => ?_
      simp -implicitDefEqProofs [-evSs_ss, -seqK_nx, -ix_l, -ix_t]
      rw [sp__law_placed]
      refine ⟨c4, n, l, 0, 6, ds, sd, rfl, ⟨P, l20, by decide, by decide, by omega, by omega⟩, fun hs ps h1 h2 h3 h4 => ?_⟩
      simp -implicitDefEqProofs [-ix_l, -ix_t]
      exact hr ⟨n, ds, [82, 66]⟩ ⟨hs, ps⟩ (P.dead l20 (by omega) (by omega) h1 C h2 h3 h4) (by simp only; omega) (by simp only; omega) (by simp only; omega)
end Lt
/-! T7: dead standings stay dead -/
namespace Lt
open Lh
theorem reach_sub {z : List (Nat × Dr)} {t : Nat} {rs : List Nat} {S : Nat → Prop} (h0 : ∀ r ∈ rs, S r) (h1 : ∀ x y, Adj z t x y → S y → S x) {i : Nat} (h : reach z t rs i) : S i := by
  obtain ⟨r, hr, k, p⟩ := h
  have b := h0 r hr
  clear hr
  induction p with
  | nil => exact b
  | cons a _ ih => exact h1 _ _ a (ih b)
theorem adj_sym {z : List (Nat × Dr)} {t x y : Nat} (h : Adj z t x y) : Adj z t y x := by
  obtain ⟨q, a, b, c⟩ := h
  exact ⟨q, a, b, c.symm⟩
theorem zOf_dr {h : Hs} {s : St} {q : Nat × Dr} (H : HsOk h) (hq : q ∈ zOf h s) : q.2 ∈ h.doors := by
  obtain ⟨k, hk⟩ := List.getElem?_of_mem hq
  obtain ⟨x, d⟩ := q
  exact mem_of_get (zOf_get.mp hk).1
theorem reach_lt {h : Hs} {s : St} (H : HsOk h) (S : StOk h s) {t m : Nat} (hm : reach (zOf h s) t (roomsOf s.hands t) m) : m < h.rooms := by
  refine reach_sub (S := fun m => m < h.rooms) ?_ ?_ hm
  · intro r hr
    obtain ⟨i, hi⟩ := mem_roomsOf.mp hr
    exact S.rm _ (mem_of_get hi)
  · rintro x y ⟨q, hq, _, hxy⟩ _
    have D := H.dr _ (zOf_dr H hq)
    have := D.a
    have := D.b
    rcases hxy with ⟨a, b⟩ | ⟨a, b⟩ <;> omega
theorem Dead.no {h : Hs} {s : St} (D : Dead h s) (m : Nat) : ¬ (reach (zOf h s) 82 (roomsOf s.hands 82) m ∧ reach (zOf h s) 66 (roomsOf s.hands 66) m) := by
  rintro ⟨a, b⟩
  have : shared h s 0 ≠ [] := shared_ne.mpr ⟨m, reach_lt D.hs D.st a, a, b⟩
  exact this D.dead
theorem Dead.no2 {h : Hs} {s : St} (D : Dead h s) {t t' m : Nat} (ht : t = 82 ∨ t = 66) (ht' : t' = 82 ∨ t' = 66) (ne : t ≠ t') (h1 : reach (zOf h s) t (roomsOf s.hands t) m) (h2 : reach (zOf h s) t' (roomsOf s.hands t') m) : False := by
  rcases ht with rfl | rfl <;> rcases ht' with rfl | rfl
  · exact ne rfl
  · exact D.no m ⟨h1, h2⟩
  · exact D.no m ⟨h2, h1⟩
  · exact ne rfl
theorem Dead.moved {h : Hs} {s : St} (D : Dead h s) {i j : Nat} (hm : mayB h s i j = true) : ∃ t r d p, Moved h s i j t r d p (afterD h s i j) ∧ (t = 82 ∨ t = 66) := by
  obtain ⟨q, d, p, hq, hd, hp, ho, hl, ha⟩ := afterD_eq hm
  obtain ⟨t, r⟩ := q
  have nm := D.nm _ (mem_of_get hq)
  have tr := D.st.tr _ (mem_of_get hq)
  rw [D.tr] at tr
  simp at tr nm
  refine ⟨t, r, d, p, ⟨hq, hd, hp, ?_, ho, ha⟩, by omega⟩
  rcases hl with h | h
  · exact absurd h nm
  · exact h
/-- the lights are of the two trades -/
theorem light_two {h : Hs} {s : St} (H : HsOk h) (htr : h.tr = [82, 66]) {k x : Nat} {d : Dr} (hk : (zOf h s)[k]? = some (x, d)) : x = 82 ∨ x = 66 := by
  obtain ⟨g1, p, g2, g3⟩ := zOf_get.mp hk
  have D := H.dr d (mem_of_get g1)
  have pos := D.pos H.tr
  have : x ∈ d.c := by
    rw [g3, lightOf]
    have g4 := Int.emod_nonneg ((p : Int) - 0) (b := (d.c.length : Int)) (by omega)
    have g5 := Int.emod_lt_of_pos ((p : Int) - 0) (b := (d.c.length : Int)) (by omega)
    have lt : (((p : Int) - 0) % (d.c.length : Int)).toNat < d.c.length := by omega
    rw [List.getD_eq_getElem?_getD, List.getElem?_eq_getElem lt]
    exact List.getElem_mem lt
  have := D.sub x this
  rw [htr] at this
  simpa using this
section
variable {h : Hs} {s s' : St} {i j t r : Nat} {d : Dr} {p : Nat}
theorem Moved.start (M : Moved h s i j t r d p s') : r ∈ roomsOf s.hands t := mem_roomsOf.mpr ⟨i, M.hand⟩
theorem Moved.ends (M : Moved h s i j t r d p s') : reach (zOf h s) t (roomsOf s.hands t) d.a ∧ reach (zOf h s) t (roomsOf s.hands t) d.b := by
  have r0 := reach_in (z := zOf h s) (t := t) M.start
  have mz := mem_of_get M.z
  rcases M.at_ with rfl | rfl
  · exact ⟨r0, reach_adj ⟨_, mz, rfl, .inr ⟨rfl, rfl⟩⟩ r0⟩
  · exact ⟨reach_adj ⟨_, mz, rfl, .inl ⟨rfl, rfl⟩⟩ r0, r0⟩
theorem Moved.back (M : Moved h s i j t r d p s') {k : Nat} {q : Nat × Dr} (e : (zOf h s')[k]? = some q) : (k ≠ j ∧ (zOf h s)[k]? = some q) ∨ (k = j ∧ q = (lightOf 0 d ((p + 1) % d.c.length), d)) := by
  by_cases c : k = j
  · subst c
    rw [M.z'] at e
    cases e
    exact .inr ⟨rfl, rfl⟩
  · refine .inl ⟨c, ?_⟩
    obtain ⟨x, d'⟩ := q
    rw [zOf_get] at e ⊢
    obtain ⟨e1, p', e2, e3⟩ := e
    refine ⟨e1, p', ?_, e3⟩
    rw [M.eq] at e2
    simp only at e2
    rwa [List.getElem?_set_ne (fun e => c e.symm)] at e2
/-- the spread of the mover's trade has no new room -/
theorem Moved.same (M : Moved h s i j t r d p s') {x : Nat} (hx : reach (zOf h s') t (roomsOf s'.hands t) x) : reach (zOf h s) t (roomsOf s.hands t) x := by
  refine reach_sub (S := fun x => reach (zOf h s) t (roomsOf s.hands t) x) ?_ ?_ hx
  · intro r' hr'
    obtain ⟨k, hk⟩ := mem_roomsOf.mp hr'
    rw [M.eq] at hk
    simp only at hk
    by_cases c : i = k
    · subst c
      rw [List.getElem?_set_self (lt_of_get M.hand)] at hk
      cases hk
      obtain ⟨e1, e2⟩ := M.ends
      rcases M.at_ with e | e
      · rw [e, Nat.add_sub_cancel_left]; exact e2
      · rw [e, Nat.add_sub_cancel]; exact e1
    · rw [List.getElem?_set_ne c] at hk
      exact reach_in (mem_roomsOf.mpr ⟨k, hk⟩)
  · rintro x y ⟨q, hq, e, hxy⟩ hy
    obtain ⟨k, hk⟩ := List.getElem?_of_mem hq
    rcases M.back hk with ⟨_, g⟩ | ⟨_, g⟩
    · exact reach_adj ⟨q, mem_of_get g, e, hxy⟩ hy
    · rw [g] at hxy
      exact reach_adj ⟨_, mem_of_get M.z, rfl, hxy⟩ hy
/-- the spread of the other trade stays -/
theorem Moved.rest (M : Moved h s i j t r d p s') (D : Dead h s) (ht : t = 82 ∨ t = 66) {t' : Nat} (ht' : t' = 82 ∨ t' = 66) (ne : t ≠ t') {x : Nat} (hx : reach (zOf h s') t' (roomsOf s'.hands t') x) : reach (zOf h s) t' (roomsOf s.hands t') x := by
  refine reach_sub (S := fun x => reach (zOf h s) t' (roomsOf s.hands t') x) ?_ ?_ hx
  · intro r' hr'
    obtain ⟨k, hk⟩ := mem_roomsOf.mp hr'
    rw [M.eq] at hk
    simp only at hk
    by_cases c : i = k
    · subst c
      rw [List.getElem?_set_self (lt_of_get M.hand)] at hk
      cases hk
      exact absurd rfl ne
    · rw [List.getElem?_set_ne c] at hk
      exact reach_in (mem_roomsOf.mpr ⟨k, hk⟩)
  · rintro x y ⟨q, hq, e, hxy⟩ hy
    obtain ⟨k, hk⟩ := List.getElem?_of_mem hq
    rcases M.back hk with ⟨_, g⟩ | ⟨_, g⟩
    · exact reach_adj ⟨q, mem_of_get g, e, hxy⟩ hy
    · rw [g] at hxy
      simp only at hxy
      obtain ⟨e1, e2⟩ := M.ends
      rcases hxy with ⟨u, v⟩ | ⟨u, v⟩
      · rw [← v] at hy
        exact (D.no2 ht ht' ne e2 hy).elim
      · rw [← u] at hy
        exact (D.no2 ht ht' ne e1 hy).elim
end
theorem spr_eq {h : Hs} {s s' : St} {t : Nat} (e : ∀ x, reach (zOf h s') t (roomsOf s'.hands t) x ↔ reach (zOf h s) t (roomsOf s.hands t) x) : spr h s' t = spr h s t := by
  simp only [spr, zO_eq]
  refine List.filter_congr fun x _ => ?_
  rw [Bool.eq_iff_iff, reachB_t, reachB_t]
  exact e x
/-- a deed in a dead standing -/
theorem Dead.step {h : Hs} {s : St} (D : Dead h s) {i j : Nat} (hm : mayB h s i j = true) : Dead h (afterD h s i j) := by
  obtain ⟨t, r, d, p, M, ht⟩ := D.moved hm
  have S' := afterD_ok D.hs D.st hm
  refine ⟨D.hs, D.tr, S', ?_, ?_⟩
  · intro q hq
    rw [M.eq] at hq
    rcases List.mem_or_eq_of_mem_set hq with e | e
    · exact D.nm q e
    · rw [e]; show t ≠ 42; omega
  · apply Classical.byContradiction
    intro ne
    obtain ⟨m, _, h1, h2⟩ := shared_ne.mp ne
    have back : ∀ t', (t' = 82 ∨ t' = 66) → reach (zOf h (afterD h s i j)) t' (roomsOf (afterD h s i j).hands t') m → reach (zOf h s) t' (roomsOf s.hands t') m := by
      intro t' ht' hr
      by_cases e : t = t'
      · subst e; exact M.same hr
      · exact M.rest D ht ht' e hr
    exact D.no m ⟨back 82 (.inl rfl) h1, back 66 (.inr rfl) h2⟩
theorem Dead.run {h : Hs} : ∀ {ds : List (Nat × Nat)} {s : St}, Dead h s → okRun h s ds → Dead h (afterR h s ds)
  | [], _, D, _ => D
  | q :: ds, s, D, o => Dead.run (ds := ds) (D.step o.1) o.2
/-- doors whose light has changed -/
def Chg (h : Hs) (s : St) (ch : List Nat) : Prop := ∀ (j n x : Nat) (d : Dr), ch[j]? = some n → 0 < n → (zOf h s)[j]? = some (x, d) → ¬ reach (zOf h s) x (roomsOf s.hands x) d.a ∧ ¬ reach (zOf h s) x (roomsOf s.hands x) d.b
theorem Chg.zero {h : Hs} {s : St} {ch : List Nat} (C : Chg h s ch) (D : Dead h s) {i j n : Nat} (hm : mayB h s i j = true) (hn : ch[j]? = some n) : n = 0 := by
  obtain ⟨t, r, d, p, M, ht⟩ := D.moved hm
  apply Classical.byContradiction
  intro ne
  obtain ⟨e1, e2⟩ := M.ends
  exact (C j n t d hn (by omega) M.z).1 e1
theorem Chg.step {h : Hs} {s : St} {ch : List Nat} (C : Chg h s ch) (D : Dead h s) {i j : Nat} (hm : mayB h s i j = true) {t r : Nat} {d : Dr} {p : Nat} (M : Moved h s i j t r d p (afterD h s i j)) (ht : t = 82 ∨ t = 66)
    (ch' : List Nat) (h1 : lightOf 0 d ((p + 1) % d.c.length) = t → ch' = ch) (h2 : ∀ k, k ≠ j → ch'[k]? = ch[k]?) : Chg h (afterD h s i j) ch' := by
  intro k n x d' hn hp hz
  have back : ∀ t' m, (t' = 82 ∨ t' = 66) → reach (zOf h (afterD h s i j)) t' (roomsOf (afterD h s i j).hands t') m → reach (zOf h s) t' (roomsOf s.hands t') m := by
    intro t' m ht' hr
    by_cases e : t = t'
    · subst e; exact M.same hr
    · exact M.rest D ht ht' e hr
  have hx := light_two D.hs D.tr hz
  rcases M.back hz with ⟨ne, g⟩ | ⟨rfl, g⟩
  · rw [h2 k ne] at hn
    obtain ⟨c1, c2⟩ := C k n x d' hn hp g
    exact ⟨fun w => c1 (back x _ hx w), fun w => c2 (back x _ hx w)⟩
  · cases g
    by_cases e : lightOf 0 d ((p + 1) % d.c.length) = t
    · have := h1 e
      subst this
      have := C.zero D hm hn
      omega
    · obtain ⟨e1, e2⟩ := M.ends
      exact ⟨fun w => D.no2 ht hx (fun z => e z.symm) e1 (back _ _ hx w), fun w => D.no2 ht hx (fun z => e z.symm) e2 (back _ _ hx w)⟩
end Lt
/-! T8: a moment, the law -/
namespace Lt
open Lh
noncomputable def sprP (h : Hs) (s : St) : PV := .lst [.lst ((spr h s 82).map nP), .lst ((spr h s 66).map nP)]
theorem eqPV_hP {p q : Nat × Nat} : eqPV (hP p) (hP q) = decide (p = q) := by
  obtain ⟨a, b⟩ := p
  obtain ⟨c, d⟩ := q
  simp only [hP, eqPV, eqPVs, Bool.and_true]
  rw [Bool.eq_iff_iff]
  simp
  intro _
  omega
theorem data_hP {n : Nat} {q : Nat × Nat} (h : q.1 < 1114112) : dataB (n + 2) (hP q) = true := by
  simp [hP, dataB, dataBs, h]
theorem datas_hP {n : Nat} : ∀ {xs : List (Nat × Nat)}, (∀ q ∈ xs, q.1 < 1114112) → dataBs (n + 2) (xs.map hP) = true
  | [], _ => rfl
  | d :: xs, h => by
    simp only [List.map_cons, dataBs, Bool.and_eq_true]
    exact ⟨data_hP (h d (by simp)), datas_hP fun d hd => h d (by simp [hd])⟩
theorem any_hP (q : Nat × Nat) (xs : List (Nat × Nat)) : ((xs.map hP).any fun z => eqPV z (hP q)) = decide (q ∈ xs) := by
  rw [Bool.eq_iff_iff]
  simp only [List.any_map, List.any_eq_true, Function.comp, eqPV_hP, decide_eq_true_eq]
  constructor
  · rintro ⟨x, hx, rfl⟩; exact hx
  · intro h; exact ⟨q, h, rfl⟩
theorem in_hPs {q : Nat × Nat} {xs : List (Nat × Nat)} (hq : q.1 < 1114112) (h : ∀ q ∈ xs, q.1 < 1114112) {Q : PV → Prop} : cmpR .inn (hP q) (.lst (xs.map hP)) Q = Q (.bl (decide (q ∈ xs))) := by
  have e : inD (hP q) (.lst (xs.map hP)) = true := by
    have e1 := data_hP (n := 6) hq
    have e2 := datas_hP (n := 5) h
    simp [inD, dataB, e1, e2]
  rw [cmp_inD e, any_hP]
theorem Dead.letters {h : Hs} {s : St} (D : Dead h s) : ∀ q ∈ s.hands, q.1 < 1114112 := by
  intro q hq
  rcases D.st.tr q hq with e | e
  · omega
  · have := D.hs.tr.cap _ e; omega
theorem ev__law_moment : ∀ ts R, s__law_moment ts R → evD sp [.va, .va, .va, .va, .va, .va] 13 b__law_moment ts R := by
  rintro ts R ⟨h, s, rfl, D, hr⟩
  refine evD_of sp rfl rfl ?_
  have H := D.hs
  have S := D.st
  have m1 := S.many
  have m2 := H.many
  have m3 := H.most
  have l1 := S.len
  have hR2 : R62 2 := ⟨by decide, by decide⟩
  have sl1 : (spr h s 82).length ≤ 1000 := Nat.le_trans spr_len (by omega)
  have sl2 : (spr h s 66).length ≤ 1000 := Nat.le_trans spr_len (by omega)
  have f1 : (spr h s 82).filter (fun x => decide (x ∈ spr h s 66)) = [] := by
    rw [List.filter_eq_nil_iff]
    intro x hx
    simp only [decide_eq_true_eq]
    intro hy
    exact D.no x ⟨(mem_spr.mp hx).2, (mem_spr.mp hy).2⟩
  have f2 : s.hands.filter (fun q => decide (q.1 = 82 ∧ (66, q.2) ∈ s.hands)) = [] := by
    rw [List.filter_eq_nil_iff]
    intro q hq
    simp only [decide_eq_true_eq]
    rintro ⟨e1, e2⟩
    obtain ⟨a, b⟩ := q
    simp only at e1 e2
    subst e1
    have q1 : b ∈ roomsOf s.hands 82 := by
      obtain ⟨i, hi⟩ := List.getElem?_of_mem hq
      exact mem_roomsOf.mpr ⟨i, hi⟩
    have q2 : b ∈ roomsOf s.hands 66 := by
      obtain ⟨i, hi⟩ := List.getElem?_of_mem e2
      exact mem_roomsOf.mpr ⟨i, hi⟩
    exact D.no b ⟨reach_in q1, reach_in q2⟩
  have lt := D.letters
  simp only [b__law_moment]
  rw [evSs_ss]
  simp -implicitDefEqProofs [-evSs_ss, -seqK_nx, -ix_l, -ix_t]
  rw [sp__law_is_standing]
  refine ⟨s, rfl, ⟨by omega, by omega⟩, ?_⟩
  simp -implicitDefEqProofs [-evSs_ss, -seqK_nx, -ix_l, -ix_t]
  rw [seqK_nx, evSs_ss]
  simp -implicitDefEqProofs [-evSs_ss, -seqK_nx, -ix_l, -ix_t]
  rw [sp_is_live]
  refine ⟨h, s, rfl, ⟨H, S, D.tr, D.nm⟩, ?_⟩
  rw [D.dead]
  simp -implicitDefEqProofs [-evSs_ss, -seqK_nx, -ix_l, -ix_t]
  rw [seqK_nx, evSs_ss]
  simp -implicitDefEqProofs [-evSs_ss, -seqK_nx, -ix_l, -ix_t]
  rw [seqK_nx, evSs_ss]
  simp -implicitDefEqProofs [-evSs_ss, -seqK_nx, -ix_l, -ix_t]
  refine comp_map sp [82, 66] lP (fun t => .lst ((spr h s t).map nP)) (by simp) ?_ ?_
  · intro t ht kk hkk
    simp -implicitDefEqProofs [-ix_l, -ix_t]
    rw [sp__law_reached]
    refine ⟨h, s, t, rfl, ⟨H, S⟩, ?_⟩
    simp
    exact hkk
  · simp -implicitDefEqProofs [-evSs_ss, -seqK_nx, -ix_l, -ix_t]
    rw [seqK_nx, evSs_ss]
    simp -implicitDefEqProofs [-evSs_ss, -seqK_nx, -ix_l, -ix_t]
    rw [seqK_nx, evSs_ss]
    simp -implicitDefEqProofs [hR2, rangeL_0, -evSs_ss, -seqK_nx, -ix_l, -ix_t]
    refine for_range sp 2 (fun _ e => ∃ x8 x9, e = [.fz (HP h), .fz (SP s), .fz (.int (h.rooms : Nat)), .fz (.lst (h.doors.map dP)), .fz (.lst (s.hands.map hP)), .fz (.lst (s.places.map nP)), .fz (.bl false), .fz (.lst [.lst ((spr h s 82).map nP), .lst ((spr h s 66).map nP)]), x8, x9, .u, .u, .u]) ⟨_, _, rfl⟩ ?_ ?_
    · rintro k e J hk ⟨x8, x9, rfl⟩ hJ
      have : k = 0 ∨ k = 1 := by omega
      rcases this with rfl | rfl
      · have i0 : ∀ Q : PV → Prop, ixR (.str [82, 66]) (.int 0) Q = Q (.str [82]) := fun Q => ixs_nat (c := [82, 66]) (k := 0) rfl (by decide)
        simp -implicitDefEqProofs [i0, -ix_l, -ix_t]
        rw [sp_spread_of]
        refine ⟨h, s, 82, rfl, ⟨H, S, D.tr, D.nm, .inl rfl⟩, ?_⟩
        simp -implicitDefEqProofs [-ix_l, -ix_t]
        rw [sp__law_integers]
        refine ⟨spr h s 82, rfl, sl1, ?_⟩
        simp -implicitDefEqProofs [lst0, cmp_nPs_ne, -ix_l, -ix_t]
        exact hJ _ ⟨.fz (.int (0 : Nat)), _, rfl⟩
      · have i1 : ∀ Q : PV → Prop, ixR (.str [82, 66]) (.int 1) Q = Q (.str [66]) := fun Q => ixs_nat (c := [82, 66]) (k := 1) rfl (by decide)
        simp -implicitDefEqProofs [i1, -ix_l, -ix_t]
        rw [sp_spread_of]
        refine ⟨h, s, 66, rfl, ⟨H, S, D.tr, D.nm, .inr rfl⟩, ?_⟩
        simp -implicitDefEqProofs [-ix_l, -ix_t]
        rw [sp__law_integers]
        refine ⟨spr h s 66, rfl, sl2, ?_⟩
        simp -implicitDefEqProofs [lst1, cmp_nPs_ne, -ix_l, -ix_t]
        exact hJ _ ⟨.fz (.int (1 : Nat)), _, rfl⟩
    · rintro e ⟨x8, x9, rfl⟩
      rw [seqK_nx, evSs_ss]
      simp -implicitDefEqProofs [lst0, lst1, -evSs_ss, -seqK_nx, -ix_l, -ix_t]
      refine comp_flt sp (spr h s 82) nP (fun x => decide (x ∈ spr h s 66)) nP (by omega) ?_ ?_
      · intro x hx kk k1 k2
        simp -implicitDefEqProofs [lst1, inNats, -ix_l, -ix_t]
        split
        · rename_i e
          exact k1 (by simpa using e)
        · rename_i e
          exact k2 (by simpa using e)
      · rw [f1]
        simp -implicitDefEqProofs [cmp_ne_nilnil, -evSs_ss, -seqK_nx, -ix_l, -ix_t]
        rw [seqK_nx, evSs_ss]
        simp -implicitDefEqProofs [-evSs_ss, -seqK_nx, -ix_l, -ix_t]
        refine comp_flt sp s.hands hP (fun q => decide (q.1 = 82 ∧ (66, q.2) ∈ s.hands)) hP (by omega) ?_ ?_
        · intro q hq kk k1 k2
          have cmpS : ∀ (u v : Nat) (Q : PV → Prop), cmpR .eq (.str [u]) (.str [v]) Q = Q (.bl (decide (u = v))) := by
            intro u v Q; simp [cmp_eq, okEq, scalP, eqPV]
          have inh : ∀ Q : PV → Prop, cmpR .inn (.tup [.str [66], .int (q.2 : Int)]) (.lst (s.hands.map hP)) Q = Q (.bl (decide ((66, q.2) ∈ s.hands))) := fun Q => in_hPs (q := (66, q.2)) (show (66 : Nat) < 1114112 by decide) lt
          by_cases c1 : q.1 = 82
          · by_cases c2 : (66, q.2) ∈ s.hands
            · have := k1 (by simp [c1, c2])
              simp -implicitDefEqProofs [cmpS, inh, c1, c2, -ix_l, -ix_t]
              exact this
            · have := k2 (by simp [c1, c2])
              simp -implicitDefEqProofs [cmpS, inh, c1, c2, -ix_l, -ix_t]
              exact this
          · have := k2 (by simp [c1])
            simp -implicitDefEqProofs [cmpS, inh, c1, -ix_l, -ix_t]
            exact this
        · rw [f2]
          simp -implicitDefEqProofs [cmp_ne_nilnil, -ix_l, -ix_t]
          exact hr
def t5_law : List S := (.frz 9) :: (.frz 8) :: (.iff (.v (.cmp .eq (.call j__law_moment [.va, .va, .va, .va, .va, .va] (es [.var 3, .var 4, .var 12, .var 13, .var 14, .var 15])) (.lst (es [])))) (ss [.ret (.cbl false)]) (ss [])) :: (.asg 11 (.call j_replay [.va, .va, .va] (es [.var 3, .var 4, .make 2 j_Run_init [.va] (es [.bi1 .list (.var 9)])]))) :: (.iff (.or2 (.not (.v (.call j__law_is_standing [.va, .va, .va] (es [.var 11, .ix (.var 7) (.cint 0), .ix (.var 7) (.cint 1)])))) (.or1 (.not (.v (.call j__law_lit [.va, .va, .va, .va] (es [.var 3, .var 6, .var 13, .ix (.var 7) (.cint 1)])))))) (ss [.ret (.cbl false)]) (ss [])) :: (.ret (.and2 (.call j__law_is_standing [.va, .va, .va] (es [.var 4, .var 14, .var 15])) (.and1 (.call j__law_is_house [.va, .va, .va] (es [.var 3, .var 12, .var 13]))))) :: []
def t4_law : List S := (.for_ (.nm 10) (.rng1 (.cint 30)) (ss [.asg 16 (.call j__law_possible [.va, .va, .va] (es [.var 13, .ix (.var 7) (.cint 0), .ix (.var 7) (.cint 1)])), .asg 17 (.call j_possible_deeds [.va, .va] (es [.var 3, .var 6])), .iff (.or2 (.not (.v (.call j__law_are_deeds [.va] (es [.var 17])))) (.or2 (.v (.cmp .ne (.var 17) (.var 16))) (.or1 (.v (.cmp .ne (.comp (.val (.var 17)) (.nm 21) (.some (.v (.cmp .gt (.ix (.var 8) (.ix (.var 21) (.cint 1))) (.cint 0)))) (.var 21) [21]) (.lst (es []))))))) (ss [.ret (.cbl false)]) (ss []), .iff (.v (.cmp .eq (.var 16) (.lst (es [])))) (ss [.brk]) (ss []), .tgt (.tp [.nm 19, .nm 20]) (.ix (.var 16) (.bin .mod (.bi1 .int (.ix (.var 2) (.var 10))) (.bi1 .len (.var 16)))), .iff (.v (.cmp .ne (.call j_light_of [.va, .va, .va] (es [.var 3, .var 6, .var 20])) (.ix (.ix (.ix (.var 7) (.cint 0)) (.var 19)) (.cint 0)))) (ss [.ret (.cbl false)]) (ss []), .asg 6 (.call j_do [.va, .va, .va, .va] (es [.var 3, .var 6, .var 19, .var 20])), .asg 7 (.call j__law_deed [.va, .va, .va, .va, .va] (es [.var 13, .ix (.var 7) (.cint 0), .ix (.var 7) (.cint 1), .var 19, .var 20])), .mu .append (.nm 9) (es [.tup (es [.var 19, .var 20])]), .iff (.v (.cmp .ne (.call j_light_of [.va, .va, .va] (es [.var 3, .var 6, .var 20])) (.ix (.ix (.ix (.var 7) (.cint 0)) (.var 19)) (.cint 0)))) (ss [.setix (.nm 8) (.var 20) (.bin .add (.ix (.var 8) (.var 20)) (.cint 1))]) (ss []), .asg 18 (.call j__law_moment [.va, .va, .va, .va, .va, .va] (es [.var 3, .var 6, .var 12, .var 13, .ix (.var 7) (.cint 0), .ix (.var 7) (.cint 1)])), .iff (.or2 (.v (.cmp .eq (.var 18) (.lst (es [])))) (.or1 (.v (.cmp .gt (.ix (.var 8) (.var 20)) (.cint 1))))) (ss [.ret (.cbl false)]) (ss []), .iff (.not (.v (.call j__law_fewer [.va, .va, .va] (es [.var 5, .var 18, .m1 .sindex (.cstr [82, 66]) (.ix (.ix (.ix (.var 7) (.cint 0)) (.var 19)) (.cint 0))])))) (ss [.ret (.cbl false)]) (ss []), .asg 5 (.var 18)])) :: t5_law
def t3_law : List S := (.iff (.or2 (.v (.cmp .eq (.var 5) (.lst (es [])))) (.or1 (.not (.v (.call j__law_lit [.va, .va, .va, .va] (es [.var 3, .var 4, .var 13, .var 15])))))) (ss [.ret (.cbl false)]) (ss [])) :: (.asg 6 (.var 4)) :: (.asg 7 (.tup (es [.var 14, .var 15]))) :: (.asg 8 (.bin .mul (.lst (es [.cint 0])) (.bi1 .len (.var 13)))) :: (.asg 9 (.lst (es []))) :: t4_law
def t2_law : List S := (.asg 3 (.makek 0 j_House_init [.va, .va] (es [.var 12, .bi1 .list (.var 13)]) (es []) [.inr (.str [82, 66])])) :: (.asg 4 (.make 1 j_Standing_init [.bo, .bo] (es [.bi1 .list (.var 14), .bi1 .list (.var 15)]))) :: (.asg 5 (.call j__law_moment [.va, .va, .va, .va, .va, .va] (es [.var 3, .var 4, .var 12, .var 13, .var 14, .var 15]))) :: t3_law
def t1_law : List S := (.tgt (.tp [.nm 12, .nm 13, .nm 14, .nm 15]) (.call j__law_scene [.va, .va, .va] (es [.var 0, .var 1, .tup (es [.cint 7, .cint 3, .cint 6])]))) :: (.asg 2 (.callO j__law_row [.va, .va] (es [.call j__law_far [.va, .va] (es [.var 0, .cint 6]), .bin .mul (.lst (es [.cint 5040])) (.cint 30)]))) :: (.frz 2) :: t2_law
theorem b_law_e : b_law = ss ((.asg 1 (.cmp .eq (.ix (.callO j__law_row [.va, .va] (es [.call j__law_far [.va, .va] (es [.var 0, .cint 5]), .lst (es [.cint 6])])) (.cint 0)) (.cint 0))) :: t1_law) := rfl
section
variable {ns : List Int} {row : List Nat} {fr : PV} {h : Hs} {s : St} {R : PV → List OV → Prop}
noncomputable def envD (ns : List Int) (fr : PV) (row : List Nat) (h : Hs) (s s' : St) (ds : List (Nat × Nat)) (ch : List Nat) (x10 x11 x16 x17 x18 x19 x20 x21 : Slot) : Env :=
  [.fz (.ro (ns.map .int)), .fz fr, .fz (.lst (row.map nP)), .fz (HP h), .fz (SP s), .fz (sprP h s'), .fz (SP s'), .fz (sP s'), .ow (.lst (ch.map nP)), .ow (.lst (ds.map pP)), x10, x11, .fz (.int h.rooms), .fz (.lst (h.doors.map dP)), .fz (.lst (s.hands.map hP)), .fz (.lst (s.places.map nP)), x16, x17, x18, x19, x20, x21]
theorem moment_ok {h : Hs} {s : St} (D : Dead h s) (K : PV → List OV → Prop) (hK : K (sprP h s) []) : sp j__law_moment [.fz (HP h), .fz (SP s), .fz (.int (h.rooms : Nat)), .fz (.lst (h.doors.map dP)), .fz (.lst (s.hands.map hP)), .fz (.lst (s.places.map nP))] K := by
  rw [sp__law_moment]
  exact ⟨h, s, rfl, D, hK⟩
theorem mkS_sprP {e : E} (h : Hs) (s : St) (hf : isFresh e = false) : mkS e (sprP h s) = .fz (sprP h s) := by
  simp [sprP, hf]
theorem cmp_sprP {h : Hs} {s : St} {Q : PV → Prop} : cmpR .eq (sprP h s) (.lst []) Q = Q (.bl false) := by
  rw [sprP, cmp_len_eq (by simp)]
theorem stand_ok {h : Hs} {t : St} (T : StOk h t) (H : HsOk h) (K : PV → List OV → Prop) (hK : K (.bl true) []) : sp j__law_is_standing [OV.fz (SP t), .fz (.lst (t.hands.map hP)), .fz (.lst (t.places.map nP))] K := by
  rw [sp__law_is_standing]
  have := T.many
  have := T.len
  have := H.many
  exact ⟨t, rfl, ⟨by omega, by omega⟩, hK⟩
theorem law_d {s' : St} {ds : List (Nat × Nat)} {ch : List Nat} {x10 x11 x16 x17 x18 x19 x20 x21 : Slot} (D : Dead h s) (o : okRun h s ds) (dl : ds.length ≤ 30) (e : s' = afterR h s ds) (hr : R (.bl true) []) :
    evSs sp (ss t5_law) (envD ns fr row h s s' ds ch x10 x11 x16 x17 x18 x19 x20 x21) (finK [.va] R) := by
  have D' : Dead h s' := by rw [e]; exact D.run o
  have d1 : ds.length ≤ 16777216 := by omega
  simp only [t5_law, envD]
  rw [evSs_ss]
  simp -implicitDefEqProofs [-evSs_ss, -seqK_nx, -ix_l, -ix_t]
  rw [seqK_nx, evSs_ss]
  simp -implicitDefEqProofs [-evSs_ss, -seqK_nx, -ix_l, -ix_t]
  rw [seqK_nx, evSs_ss]
  simp -implicitDefEqProofs [-evSs_ss, -seqK_nx, -ix_l, -ix_t]
  refine moment_ok D _ ?_
  simp -implicitDefEqProofs [cmp_sprP, -evSs_ss, -seqK_nx, -ix_l, -ix_t]
  rw [seqK_nx, evSs_ss]
  simp -implicitDefEqProofs [d1, -evSs_ss, -seqK_nx, -ix_l, -ix_t]
  rw [sp_Run_init]
  refine ⟨ds, _, rfl, .inl rfl, by omega, ?_⟩
  simp -implicitDefEqProofs [-evSs_ss, -seqK_nx, -ix_l, -ix_t]
  rw [sp_replay]
  refine ⟨h, s, ds, rfl, ⟨D.hs, D.st, o, by omega⟩, ?_⟩
  rw [← e]
  simp -implicitDefEqProofs [-evSs_ss, -seqK_nx, -ix_l, -ix_t]
  rw [seqK_nx, evSs_ss]
  simp -implicitDefEqProofs [-evSs_ss, -seqK_nx, -ix_l, -ix_t]
  refine stand_ok D'.st D.hs _ ?_
  simp -implicitDefEqProofs [-evSs_ss, -seqK_nx, -ix_l, -ix_t]
  rw [sp__law_lit]
  refine ⟨h, s', rfl, ⟨D.hs, D'.st⟩, ?_⟩
  simp -implicitDefEqProofs [-evSs_ss, -seqK_nx, -ix_l, -ix_t]
  rw [seqK_nx, evSs_ss]
  simp -implicitDefEqProofs [-evSs_ss, -seqK_nx, -ix_l, -ix_t]
  refine stand_ok D.st D.hs _ ?_
  simp -implicitDefEqProofs [-ix_l, -ix_t]
  rw [sp__law_is_house]
  refine ⟨h, rfl, ⟨D.tr, D.hs⟩, ?_⟩
  simp
  exact hr
theorem okRun_snoc {h : Hs} {q : Nat × Nat} : ∀ {ds : List (Nat × Nat)} {s : St}, okRun h s ds → mayB h (afterR h s ds) q.1 q.2 = true → okRun h s (ds ++ [q])
  | [], s, _, hm => ⟨hm, trivial⟩
  | d :: ds, s, o, hm => ⟨o.1, okRun_snoc (ds := ds) o.2 hm⟩
theorem law_c {s' : St} {ds : List (Nat × Nat)} {ch : List Nat} {x10 x11 x16 x17 x18 x19 x20 x21 : Slot} (D : Dead h s) (rl : row.length = 30) (hr : R (.bl true) []) :
    evSs sp (ss t4_law) (envD ns fr row h s s [] (List.replicate h.doors.length 0) x10 x11 x16 x17 x18 x19 x20 x21) (finK [.va] R) := by
  have hR : R62 30 := ⟨by decide, by decide⟩
  have m1 := D.hs.many
  simp only [t4_law]
  rw [evSs_ss]
  simp -implicitDefEqProofs [hR, rangeL_0, -evSs_ss, -seqK_nx, -ix_l, -ix_t]
  refine for_range sp 30 (fun k e => ∃ (s' : St) (ds : List (Nat × Nat)) (ch : List Nat) (x10 x16 x17 x18 x19 x20 : Slot), e = envD ns fr row h s s' ds ch x10 x11 x16 x17 x18 x19 x20 x21 ∧ okRun h s ds ∧ ds.length ≤ k ∧ s' = afterR h s ds ∧ ch.length = h.doors.length ∧ Chg h s' ch) ?_ ?_ ?_
  · refine ⟨s, [], _, x10, x16, x17, x18, x19, x20, rfl, trivial, by simp, rfl, by simp, ?_⟩
    intro j n x d hn hp
    rw [List.getElem?_replicate] at hn
    split at hn
    · cases hn; omega
    · cases hn
  · rintro k e J hk ⟨s', ds, ch, x10, x16, x17, x18, x19, x20, rfl, o, dl, he, cl, C⟩ hJ
    have D' : Dead h s' := by rw [he]; exact D.run o
    have S' := D'.st
    have H := D.hs
    have dl2 : ds.length < 16777216 := by omega
    have m3 := S'.many
    have dsl := deeds_len h s' m1 m3
    simp only [envD]
    simp -implicitDefEqProofs [-evSs_ss, -seqK_nx, -ix_l, -ix_t]
    rw [evSs_ss]
    simp -implicitDefEqProofs [-evSs_ss, -seqK_nx, -ix_l, -ix_t]
    rw [sp__law_possible]
    refine ⟨h, s', rfl, ⟨H, S'⟩, ?_⟩
    simp -implicitDefEqProofs [-evSs_ss, -seqK_nx, -ix_l, -ix_t]
    rw [seqK_nx, evSs_ss]
    simp -implicitDefEqProofs [-evSs_ss, -seqK_nx, -ix_l, -ix_t]
    rw [sp_possible_deeds]
    refine ⟨h, s', rfl, ⟨H, S'⟩, ?_⟩
    simp -implicitDefEqProofs [-evSs_ss, -seqK_nx, -ix_l, -ix_t]
    rw [seqK_nx, evSs_ss]
    simp -implicitDefEqProofs [-evSs_ss, -seqK_nx, -ix_l, -ix_t]
    rw [sp__law_are_deeds]
    refine ⟨deeds h s', rfl, ?_⟩
    simp -implicitDefEqProofs [ne_pPs, -evSs_ss, -seqK_nx, -ix_l, -ix_t]
    refine comp_flt sp (deeds h s') pP (fun _ => false) pP (by omega) ?_ ?_
    · intro q hq kk k1 k2
      obtain ⟨z1, z2, z3⟩ := mem_deeds.mp hq
      obtain ⟨n, hn⟩ := get_ex (xs := ch) (k := q.2) (by omega)
      have n0 := C.zero D' z3 hn
      subst n0
      simp -implicitDefEqProofs [ixl_lt hn, -ix_l, -ix_t]
      exact k2 rfl
    rw [show (deeds h s').filter (fun _ => false) = [] by simp]
    simp -implicitDefEqProofs [cmp_ne_nilnil, -evSs_ss, -seqK_nx, -ix_l, -ix_t]
    rw [seqK_nx, evSs_ss, evS_iff]
    by_cases dn : deeds h s' = []
    · have eq : ∀ Q : PV → Prop, cmpR .eq (.lst ((deeds h s').map pP)) (.lst []) Q = Q (.bl true) := fun Q => by rw [dn]; exact cmp_nilnil
      simp -implicitDefEqProofs [eq, -evSs_ss, -seqK_nx, -ix_l, -ix_t]
      rw [evSs_ss]
      simp -implicitDefEqProofs [-evSs_ss, -seqK_nx, -ix_l, -ix_t]
      rw [seqK_nx]
      exact law_d D o (by omega) he hr
    · have dnl : 0 < (deeds h s').length := List.length_pos_iff.mpr dn
      have eq : ∀ Q : PV → Prop, cmpR .eq (.lst ((deeds h s').map pP)) (.lst []) Q = Q (.bl false) := fun Q => cmp_len_eq (by simp; omega)
      obtain ⟨v, hv⟩ := get_ex (xs := row) (k := k) (by omega)
      have g1 := Int.emod_nonneg (v : Int) (b := ((deeds h s').length : Int)) (by omega)
      have g2 := Int.emod_lt_of_pos (v : Int) (b := ((deeds h s').length : Int)) (by omega)
      obtain ⟨u, hu⟩ : ∃ u : Nat, (v : Int) % ((deeds h s').length : Int) = (u : Int) := ⟨((v : Int) % ((deeds h s').length : Int)).toNat, by omega⟩
      obtain ⟨q, hq⟩ := get_ex (xs := deeds h s') (k := u) (by omega)
      have iq := ixl_i (f := pP) hq hu
      obtain ⟨z1, z2, z3⟩ := mem_deeds.mp (mem_of_get hq)
      obtain ⟨t, r, d, p, M, ht⟩ := D'.moved z3
      have D2 := D'.step z3
      have lt1 : (lights h s' 0)[q.2]? = some t := (zip_get M.z).1
      have lt2 : (lights h (afterD h s' q.1 q.2) 0)[q.2]? = some (lightOf 0 d ((p + 1) % d.c.length)) := (zip_get M.z').1
      have h2 : (afterD h s' q.1 q.2).hands[q.1]? = some (t, d.a + d.b - r) := by
        rw [M.eq]
        simp [lt_of_get M.hand]
      obtain ⟨n, hn⟩ := get_ex (xs := ch) (k := q.2) (by omega)
      have n0 := C.zero D' z3 hn
      subst n0
      have chl : q.2 < ch.length := lt_of_get hn
      have ic := fun Q => ixl_lt (f := nP) (Q := Q) hn
      simp -implicitDefEqProofs [eq, -evSs_ss, -seqK_nx, -ix_l, -ix_t]
      rw [seqK_nx, evSs_ss]
      simp -implicitDefEqProofs [ixl_lt hv, iq, dnl, pP, -evSs_ss, -seqK_nx, -ix_l, -ix_t]
      rw [seqK_nx, evSs_ss]
      simp -implicitDefEqProofs [-evSs_ss, -seqK_nx, -ix_l, -ix_t]
      rw [sp_light_of]
      refine ⟨h, s', q.2, t, rfl, ⟨H, S', lt1⟩, ?_⟩
      have ih := fun Q => ixl_lt (f := hP) (Q := Q) M.hand
      have ih2 := fun Q => ixl_lt (f := hP) (Q := Q) h2
      have cmpN : ∀ (u v : Nat) (Q : PV → Prop), cmpR .ne (.str [u]) (.str [v]) Q = Q (.bl (!decide (u = v))) := by
        intro u v Q; simp [cmp_ne, okEq, scalP, eqPV]
      simp -implicitDefEqProofs [ih, cmpN, -evSs_ss, -seqK_nx, -ix_l, -ix_t]
      rw [seqK_nx, evSs_ss]
      simp -implicitDefEqProofs [-evSs_ss, -seqK_nx, -ix_l, -ix_t]
      rw [sp_do]
      refine ⟨h, s', q.1, q.2, rfl, ⟨H, S', z3⟩, ?_⟩
      simp -implicitDefEqProofs [-evSs_ss, -seqK_nx, -ix_l, -ix_t]
      rw [seqK_nx, evSs_ss]
      simp -implicitDefEqProofs [-evSs_ss, -seqK_nx, -ix_l, -ix_t]
      rw [sp__law_deed]
      refine ⟨h, s', q.1, q.2, rfl, ⟨H, S', z1, z2⟩, ?_⟩
      rw [if_pos z3, show PV.tup [.lst ((afterD h s' q.1 q.2).hands.map hP), .lst ((afterD h s' q.1 q.2).places.map nP)] = sP (afterD h s' q.1 q.2) from rfl]
      obtain ⟨s2, hs2⟩ : ∃ s2, s2 = afterD h s' q.1 q.2 := ⟨_, rfl⟩
      rw [← hs2] at D2 lt2 h2 M ih2 ⊢
      have S2 := D2.st
      simp -implicitDefEqProofs [-evSs_ss, -seqK_nx, -ix_l, -ix_t]
      rw [seqK_nx, evSs_ss]
      simp -implicitDefEqProofs [dl2, -evSs_ss, -seqK_nx, -ix_l, -ix_t]
      rw [seqK_nx, evSs_ss]
      simp -implicitDefEqProofs [-evSs_ss, -seqK_nx, -ix_l, -ix_t]
      refine ⟨h, s2, q.2, _, rfl, ⟨H, S2, lt2⟩, ?_⟩
      obtain ⟨ln, hln⟩ : ∃ ln, ln = lightOf 0 d ((p + 1) % d.c.length) := ⟨_, rfl⟩
      rw [← hln]
      have o2 : okRun h s (ds ++ [q]) := okRun_snoc o (by rw [← he]; exact z3)
      have he2 : s2 = afterR h s (ds ++ [q]) := by rw [afterR_snoc, ← he]; exact hs2
      have e9 : ds.map pP ++ [PV.tup [.int (q.1 : Int), .int (q.2 : Int)]] = (ds ++ [q]).map pP := by simp [pP]
      have sp_t : ∀ x ∈ spr h s2 t, x ∈ spr h s' t := by
        intro x hx
        rw [mem_spr] at hx ⊢
        exact ⟨hx.1, M.same hx.2⟩
      have sp_o : ∀ t', (t' = 82 ∨ t' = 66) → t ≠ t' → spr h s2 t' = spr h s' t' := by
        intro t' ht' ne
        refine spr_eq fun x => ⟨fun w => M.rest D' ht ht' ne w, fun w => M.other ne w⟩
      have m5 := H.most
      have sl : ∀ (s : St) (t : Nat), (spr h s t).length ≤ 1000 := fun s t => Nat.le_trans spr_len (by omega)
      -- behind the count of changes
      have last : ∀ (ch' : List Nat) (n' : Nat), ch'.length = h.doors.length → Chg h s2 ch' → ch'[q.2]? = some n' → n' ≤ 1 → evSs sp (ss [.asg 18 (.call j__law_moment [.va, .va, .va, .va, .va, .va] (es [.var 3, .var 6, .var 12, .var 13, .ix (.var 7) (.cint 0), .ix (.var 7) (.cint 1)])), .iff (.or2 (.v (.cmp .eq (.var 18) (.lst (es [])))) (.or1 (.v (.cmp .gt (.ix (.var 8) (.var 20)) (.cint 1))))) (ss [.ret (.cbl false)]) (ss []), .iff (.not (.v (.call j__law_fewer [.va, .va, .va] (es [.var 5, .var 18, .m1 .sindex (.cstr [82, 66]) (.ix (.ix (.ix (.var 7) (.cint 0)) (.var 19)) (.cint 0))])))) (ss [.ret (.cbl false)]) (ss []), .asg 5 (.var 18)])
          [.fz (.ro (ns.map .int)), .fz fr, .fz (.lst (row.map nP)), .fz (HP h), .fz (SP s), .fz (sprP h s'), .fz (SP s2), .fz (sP s2), .ow (.lst (ch'.map nP)), .ow (.lst ((ds ++ [q]).map pP)), .fz (.int (k : Int)), x11, .fz (.int h.rooms), .fz (.lst (h.doors.map dP)), .fz (.lst (s.hands.map hP)), .fz (.lst (s.places.map nP)), .fz (.lst ((deeds h s').map pP)), .fz (.lst ((deeds h s').map pP)), x18, .fz (.int (q.1 : Int)), .fz (.int (q.2 : Int)), x21] (loopK J (seqK sp (ss t5_law) (finK [.va] R))) := by
        intro ch' n' cl' C' hn' n1
        have n1' : ¬ (1 : Int) < (n' : Int) := by omega
        rw [evSs_ss]
        simp -implicitDefEqProofs [-evSs_ss, -seqK_nx, -ix_l, -ix_t, -List.map_append]
        refine moment_ok D2 _ ?_
        rw [cK_e, mkS_sprP _ _ rfl, seqK_nx, evSs_ss]
        simp -implicitDefEqProofs [cmp_sprP, ixl_lt hn', n1', -evSs_ss, -seqK_nx, -ix_l, -ix_t, -List.map_append]
        rw [seqK_nx, evSs_ss]
        simp -implicitDefEqProofs [ih2, -evSs_ss, -seqK_nx, -ix_l, -ix_t, -List.map_append]
        have fin : ∀ m : Nat, ((m = 0 ∧ t = 82) ∨ (m = 1 ∧ t = 66)) → ∀ K : PV → List OV → Prop, K (.bl true) [] → sp j__law_fewer [.fz (sprP h s'), .fz (sprP h s2), .fz (.int (m : Int))] K := by
          intro m hm K hK
          rw [sp__law_fewer]
          refine ⟨spr h s' 82, spr h s' 66, spr h s2 82, spr h s2 66, m, rfl, ⟨⟨sl _ _, sl _ _, sl _ _, sl _ _⟩, ?_⟩, hK⟩
          rcases hm with ⟨rfl, rfl⟩ | ⟨rfl, rfl⟩
          · exact .inl ⟨rfl, sp_o 66 (.inr rfl) (by decide), sp_t⟩
          · exact .inr ⟨rfl, sp_o 82 (.inl rfl) (by decide), sp_t⟩
        have fin2 : J [.fz (.ro (ns.map .int)), .fz fr, .fz (.lst (row.map nP)), .fz (HP h), .fz (SP s), .fz (sprP h s2), .fz (SP s2), .fz (sP s2), .ow (.lst (ch'.map nP)), .ow (.lst ((ds ++ [q]).map pP)), .fz (.int (k : Int)), x11, .fz (.int h.rooms), .fz (.lst (h.doors.map dP)), .fz (.lst (s.hands.map hP)), .fz (.lst (s.places.map nP)), .fz (.lst ((deeds h s').map pP)), .fz (.lst ((deeds h s').map pP)), .fz (sprP h s2), .fz (.int (q.1 : Int)), .fz (.int (q.2 : Int)), x21] :=
          hJ _ ⟨s2, ds ++ [q], ch', _, _, _, _, _, _, rfl, o2, by simp; omega, he2, cl', C'⟩
        obtain ⟨m, hm, hm2⟩ : ∃ m : Nat, [82, 66][m]? = some t ∧ ((m = 0 ∧ t = 82) ∨ (m = 1 ∧ t = 66)) := by
          rcases ht with rfl | rfl
          · exact ⟨0, rfl, .inl ⟨rfl, rfl⟩⟩
          · exact ⟨1, rfl, .inr ⟨rfl, rfl⟩⟩
        refine ⟨m, hm, ?_, ?_⟩
        · intro k' hk' e
          rcases hm2 with ⟨rfl, rfl⟩ | ⟨rfl, rfl⟩
          · omega
          · have : k' = 0 := by omega
            subst this
            cases e
        · refine fin m hm2 _ ?_
          simp -implicitDefEqProofs [-evSs_ss, -seqK_nx, -ix_l, -ix_t, -List.map_append]
          rw [seqK_nx, evSs_ss]
          simp -implicitDefEqProofs [mkS_sprP, -evSs_ss, -ix_l, -ix_t, -List.map_append]
          exact fin2
      have stp : ∀ ch' : List Nat, (ln = t → ch' = ch) → (∀ k, k ≠ q.2 → ch'[k]? = ch[k]?) → Chg h s2 ch' := by
        intro ch' e1 e2
        rw [hs2]
        refine C.step D' z3 (hs2 ▸ M) ht ch' (fun e => e1 (by rw [hln]; exact e)) e2
      by_cases c : ln = t
      · have := last ch 0 cl (stp ch (fun _ => rfl) (fun _ _ => rfl)) hn (by decide)
        have cm : ∀ Q : PV → Prop, cmpR .ne (.str [ln]) (.str [t]) Q = Q (.bl false) := fun Q => by rw [cmpN, decide_eq_true c]; rfl
        simp -implicitDefEqProofs [ih2, cm, -evSs_ss, -seqK_nx, -ix_l, -ix_t]
        rw [seqK_nx, e9]
        exact this
      · have cm : ∀ Q : PV → Prop, cmpR .ne (.str [ln]) (.str [t]) Q = Q (.bl true) := fun Q => by rw [cmpN, decide_eq_false c]; rfl
        have := last (ch.set q.2 1) 1 (by simpa using cl) (stp _ (fun e => absurd e c) (fun k hk => List.getElem?_set_ne (fun e => hk e.symm))) (by rw [List.getElem?_set_self chl]) (by decide)
        simp -implicitDefEqProofs [ih2, cm, -evSs_ss, -seqK_nx, -ix_l, -ix_t]
        rw [evSs_ss]
        simp -implicitDefEqProofs [ic, chl, -evSs_ss, -seqK_nx, -ix_l, -ix_t]
        rw [seqK_nx, evSs_ss0, seqK_nx, e9]
        rw [List.map_set] at this
        exact this
  · rintro e ⟨s', ds, ch, x10, x16, x17, x18, x19, x20, rfl, o, dl, he, cl, C⟩
    rw [seqK_nx]
    exact law_d D o dl he hr
theorem law_b {x6 x7 x8 x9 x10 x11 x16 x17 x18 x19 x20 x21 : Slot} (D : Dead h s) (rl : row.length = 30) (hd : h.doors.length ≤ 20) (hr : R (.bl true) []) :
    evSs sp (ss t3_law) [.fz (.ro (ns.map .int)), .fz fr, .fz (.lst (row.map nP)), .fz (HP h), .fz (SP s), .fz (sprP h s), x6, x7, x8, x9, x10, x11, .fz (.int h.rooms), .fz (.lst (h.doors.map dP)), .fz (.lst (s.hands.map hP)), .fz (.lst (s.places.map nP)), x16, x17, x18, x19, x20, x21] (finK [.va] R) := by
  have := law_c (ns := ns) (fr := fr) (s' := s) (ds := []) (ch := []) (x10 := x10) (x11 := x11) (x16 := x16) (x17 := x17) (x18 := x18) (x19 := x19) (x20 := x20) (x21 := x21) D rl hr
  simp only [t3_law]
  rw [evSs_ss]
  simp -implicitDefEqProofs [cmp_sprP, -evSs_ss, -seqK_nx, -ix_l, -ix_t]
  rw [sp__law_lit]
  refine ⟨h, s, rfl, ⟨D.hs, D.st⟩, ?_⟩
  simp -implicitDefEqProofs [-evSs_ss, -seqK_nx, -ix_l, -ix_t]
  rw [seqK_nx, evSs_ss]
  simp -implicitDefEqProofs [-evSs_ss, -seqK_nx, -ix_l, -ix_t]
  rw [seqK_nx, evSs_ss]
  simp -implicitDefEqProofs [-evSs_ss, -seqK_nx, -ix_l, -ix_t]
  rw [seqK_nx, evSs_ss]
  simp -implicitDefEqProofs [-evSs_ss, -seqK_nx, -ix_l, -ix_t]
  refine ⟨by omega, ?_⟩
  rw [seqK_nx, evSs_ss]
  simp -implicitDefEqProofs [-evSs_ss, -seqK_nx, -ix_l, -ix_t]
  rw [seqK_nx]
  simpa [envD, sP] using this
theorem law_a {x10 x11 x16 x17 x18 x19 x20 x21 : Slot} (D : Dead h s) (rl : row.length = 30) (hd : h.doors.length ≤ 20) (hh : s.hands.length ≤ 6) (hr : R (.bl true) []) :
    evSs sp (ss t2_law) [.fz (.ro (ns.map .int)), .fz fr, .fz (.lst (row.map nP)), .u, .u, .u, .u, .u, .u, .u, x10, x11, .fz (.int h.rooms), .fz (.lst (h.doors.map dP)), .fz (.lst (s.hands.map hP)), .fz (.lst (s.places.map nP)), x16, x17, x18, x19, x20, x21] (finK [.va] R) := by
  have l1 := D.st.len
  simp only [t2_law]
  rw [evSs_ss]
  simp -implicitDefEqProofs [-evSs_ss, -seqK_nx, -ix_l, -ix_t]
  rw [sp_House_init]
  refine ⟨h, _, by rw [D.tr], D.hs, .inl rfl, ?_⟩
  simp -implicitDefEqProofs [-evSs_ss, -seqK_nx, -ix_l, -ix_t]
  rw [seqK_nx, evSs_ss]
  simp -implicitDefEqProofs [-evSs_ss, -seqK_nx, -ix_l, -ix_t]
  rw [sp_Standing_init]
  refine ⟨s, _, _, rfl, ⟨by omega, by omega⟩, .inl rfl, .inl rfl, ?_⟩
  simp -implicitDefEqProofs [-evSs_ss, -seqK_nx, -ix_l, -ix_t]
  rw [seqK_nx, evSs_ss]
  simp -implicitDefEqProofs [-evSs_ss, -seqK_nx, -ix_l, -ix_t]
  refine moment_ok D _ ?_
  rw [cK_e, mkS_sprP _ _ rfl, seqK_nx]
  exact law_b D rl hd hr
theorem ev_law : ∀ ts R, s_law ts R → evD sp [.va] 22 b_law ts R := by
  rintro ts R ⟨ns, rfl, hr⟩
  refine evD_of sp rfl rfl ?_
  have far : ∀ (a : Int) (K : PV → List OV → Prop), 0 ≤ a → a < 1000 → (∀ c : Int, K (.int c) []) → sp j__law_far [.fz (.ro (ns.map .int)), .fz (.int a)] K := by
    intro a K q0 q1 hK
    rw [sp__law_far]
    exact ⟨ns, a, rfl, ⟨q0, q1⟩, hK⟩
  simp only [b_law_e]
  rw [evSs_ss]
  simp -implicitDefEqProofs [-evSs_ss, -seqK_nx, -ix_l, -ix_t]
  refine far _ _ (by decide) (by decide) fun c5 => ?_
  simp -implicitDefEqProofs [-evSs_ss, -seqK_nx, -ix_l, -ix_t]
  rw [sp__law_row]
  refine ⟨c5, [6], rfl, ⟨by decide, by decide⟩, fun r rl rb => ?_⟩
  obtain ⟨z, rfl⟩ : ∃ z, r = [z] := by
    match r, rl with
    | [a], _ => exact ⟨a, rfl⟩
  obtain ⟨b, hb⟩ : ∃ b, (eqPV (.int (z : Int)) (.int 0)) = b := ⟨_, rfl⟩
  have ce : ∀ Q : PV → Prop, cmpR .eq (.int (z : Int)) (.int 0) Q = Q (.bl b) := by
    intro Q
    rw [cmp_eq, hb]; simp [okEq, scalP]
  simp -implicitDefEqProofs [lst0, ce, -evSs_ss, -seqK_nx, -ix_l, -ix_t]
  rw [seqK_nx]
  simp only [t1_law]
  rw [evSs_ss]
  simp -implicitDefEqProofs [-evSs_ss, -seqK_nx, -ix_l, -ix_t]
  rw [sp__law_scene]
  refine ⟨ns, b, 7, 3, 6, rfl, by decide, fun h s D h1 h2 h3 => ?_⟩
  simp -implicitDefEqProofs [-evSs_ss, -seqK_nx, -ix_l, -ix_t]
  rw [seqK_nx, evSs_ss]
  simp -implicitDefEqProofs [-evSs_ss, -seqK_nx, -ix_l, -ix_t]
  refine far _ _ (by decide) (by decide) fun c6 => ?_
  simp -implicitDefEqProofs [-evSs_ss, -seqK_nx, -ix_l, -ix_t]
  refine ⟨c6, List.replicate 30 5040, rfl, ⟨by decide, by decide⟩, fun row rl rb => ?_⟩
  simp -implicitDefEqProofs [-evSs_ss, -seqK_nx, -ix_l, -ix_t]
  rw [seqK_nx, evSs_ss]
  simp -implicitDefEqProofs [-evSs_ss, -seqK_nx, -ix_l, -ix_t]
  rw [seqK_nx]
  exact law_a D rl h2 h3 hr
theorem ev__law_odd_cycle : ∀ ts R, s__law_odd_cycle ts R → evD sp [.va, .va, .va] 7 b__law_odd_cycle ts R := fun _ _ h => h.elim
end
end Lt
/-! S4: a list of deeds -/
namespace Lt
open Lh
theorem ev__law_are_deeds : ∀ ts R, s__law_are_deeds ts R → evD sp [.va] 2 b__law_are_deeds ts R := by
  rintro ts R ⟨ds, rfl, hr⟩
  refine evD_of sp rfl rfl ?_
  simp [b__law_are_deeds]
  refine for_map sp ds _ (fun _ e => ∃ x1, e = [.fz (.lst (ds.map pP)), x1]) ⟨_, rfl⟩ ?_ ?_
  · rintro k q e J hq ⟨x1, rfl⟩ hJ
    simp
    exact hJ _ ⟨_, rfl⟩
  · rintro e ⟨x1, rfl⟩
    simp
    exact hr
end Lt
namespace Lt
open Lh PySem PySem.Spec PyProof.Rows L2
theorem bk_is_index : BindOk d_is_index ["number", "size"] := fun _ _ _ _ _ _ us hl => match us, hl with | [_, _], _ => rfl
theorem ok_is_index : DefOk T sp 0 f_is_index d_is_index := ⟨fun _ => bk_is_index, kwOk_none rfl, ev_is_index⟩
theorem bk__are_trades : BindOk d__are_trades ["trades"] := fun _ _ _ _ _ _ us hl => match us, hl with | [_], _ => rfl
theorem ok__are_trades : DefOk T sp 1 f__are_trades d__are_trades := ⟨fun _ => bk__are_trades, kwOk_none rfl, ev__are_trades⟩
theorem bk__is_connected : BindOk d__is_connected ["rooms", "doors"] := fun _ _ _ _ _ _ us hl => match us, hl with | [_, _], _ => rfl
theorem ok__is_connected : DefOk T sp 2 f__is_connected d__is_connected := ⟨fun _ => bk__is_connected, kwOk_none rfl, ev__is_connected⟩
theorem bk_Standing_init : BindOk d_Standing_init ["self", "hands", "places"] := fun _ _ _ _ _ _ us hl => match us, hl with | [_, _, _], _ => rfl
theorem ok_Standing_init : DefOk T sp 3 f_Standing_init d_Standing_init := ⟨fun _ => bk_Standing_init, kwOk_none rfl, ev_Standing_init⟩
theorem bk__is_trade : BindOk d__is_trade ["house", "trade"] := fun _ _ _ _ _ _ us hl => match us, hl with | [_, _], _ => rfl
theorem ok__is_trade : DefOk T sp 4 f__is_trade d__is_trade := ⟨fun _ => bk__is_trade, kwOk_none rfl, ev__is_trade⟩
theorem bk_lights_at : BindOk d_lights_at ["house", "standing", "back"] := fun _ _ _ _ _ _ us hl => match us, hl with | [_, _, _], _ => rfl
theorem ok_lights_at : DefOk T sp 5 f_lights_at d_lights_at := ⟨fun _ => bk_lights_at, kwOk_none rfl, ev_lights_at⟩
theorem bk_need_trade : BindOk d_need_trade ["house", "trade"] := fun _ _ _ _ _ _ us hl => match us, hl with | [_, _], _ => rfl
theorem ok_need_trade : DefOk T sp 6 f_need_trade d_need_trade := ⟨fun _ => bk_need_trade, kwOk_none rfl, ev_need_trade⟩
theorem bk_need_no_masters : BindOk d_need_no_masters ["standing"] := fun _ _ _ _ _ _ us hl => match us, hl with | [_], _ => rfl
theorem ok_need_no_masters : DefOk T sp 7 f_need_no_masters d_need_no_masters := ⟨fun _ => bk_need_no_masters, kwOk_none rfl, ev_need_no_masters⟩
theorem bk_Run_init : BindOk d_Run_init ["self", "deeds"] := fun _ _ _ _ _ _ us hl => match us, hl with | [_, _], _ => rfl
theorem ok_Run_init : DefOk T sp 8 f_Run_init d_Run_init := ⟨fun _ => bk_Run_init, kwOk_none rfl, ev_Run_init⟩
theorem bk__step : BindOk d__step ["house", "hands", "places", "hand", "door"] := fun _ _ _ _ _ _ us hl => match us, hl with | [_, _, _, _, _], _ => rfl
theorem ok__step : DefOk T sp 9 f__step d__step := ⟨fun _ => bk__step, kwOk_none rfl, ev__step⟩
theorem bk_rooms_of : BindOk d_rooms_of ["standing", "trade"] := fun _ _ _ _ _ _ us hl => match us, hl with | [_, _], _ => rfl
theorem ok_rooms_of : DefOk T sp 10 f_rooms_of d_rooms_of := ⟨fun _ => bk_rooms_of, kwOk_none rfl, ev_rooms_of⟩
theorem bk_walk_from : BindOk d_walk_from ["house", "rooms", "letters", "trade"] := fun _ _ _ _ _ _ us hl => match us, hl with | [_, _, _, _], _ => rfl
theorem ok_walk_from : DefOk T sp 11 f_walk_from d_walk_from := ⟨fun _ => bk_walk_from, kwOk_none rfl, ev_walk_from⟩
theorem bk__law_cell : BindOk d__law_cell ["_law_script", "_law_k"] := fun _ _ _ _ _ _ us hl => match us, hl with | [_, _], _ => rfl
theorem ok__law_cell : DefOk T sp 12 f__law_cell d__law_cell := ⟨fun _ => bk__law_cell, kwOk_none rfl, ev__law_cell⟩
theorem bk__law_row : BindOk d__law_row ["_law_cell_here", "_law_sizes"] := fun _ _ _ _ _ _ us hl => match us, hl with | [_, _], _ => rfl
theorem ok__law_row : DefOk T sp 13 f__law_row d__law_row := ⟨fun _ => bk__law_row, kwOk_none rfl, ev__law_row⟩
theorem bk__law_odd_cycle : BindOk d__law_odd_cycle ["_law_row_here", "_law_at", "_law_longest"] := fun _ _ _ _ _ _ us hl => match us, hl with | [_, _, _], _ => rfl
theorem ok__law_odd_cycle : DefOk T sp 14 f__law_odd_cycle d__law_odd_cycle := ⟨fun _ => bk__law_odd_cycle, kwOk_none rfl, ev__law_odd_cycle⟩
theorem bk__law_any_cycle : BindOk d__law_any_cycle ["_law_row_here", "_law_at", "_law_longest"] := fun _ _ _ _ _ _ us hl => match us, hl with | [_, _, _], _ => rfl
theorem ok__law_any_cycle : DefOk T sp 15 f__law_any_cycle d__law_any_cycle := ⟨fun _ => bk__law_any_cycle, kwOk_none rfl, ev__law_any_cycle⟩
theorem bk__law_is_integer : BindOk d__law_is_integer ["_law_actual"] := fun _ _ _ _ _ _ us hl => match us, hl with | [_], _ => rfl
theorem ok__law_is_integer : DefOk T sp 16 f__law_is_integer d__law_is_integer := ⟨fun _ => bk__law_is_integer, kwOk_none rfl, ev__law_is_integer⟩
theorem bk__law_deed : BindOk d__law_deed ["_law_doors", "_law_hands", "_law_places", "_law_hand", "_law_door"] := fun _ _ _ _ _ _ us hl => match us, hl with | [_, _, _, _, _], _ => rfl
theorem ok__law_deed : DefOk T sp 17 f__law_deed d__law_deed := ⟨fun _ => bk__law_deed, kwOk_none rfl, ev__law_deed⟩
theorem bk__law_lights : BindOk d__law_lights ["_law_doors", "_law_places", "_law_back"] := fun _ _ _ _ _ _ us hl => match us, hl with | [_, _, _], _ => rfl
theorem ok__law_lights : DefOk T sp 18 f__law_lights d__law_lights := ⟨fun _ => bk__law_lights, kwOk_none rfl, ev__law_lights⟩
theorem bk__law_spread : BindOk d__law_spread ["_law_rooms", "_law_doors", "_law_hands", "_law_letters", "_law_guild"] := fun _ _ _ _ _ _ us hl => match us, hl with | [_, _, _, _, _], _ => rfl
theorem ok__law_spread : DefOk T sp 19 f__law_spread d__law_spread := ⟨fun _ => bk__law_spread, kwOk_none rfl, ev__law_spread⟩
theorem bk__law_ends : BindOk d__law_ends ["_law_k", "_law_near", "_law_shut", "_law_rooms", "_law_parts", "_law_pick"] := fun _ _ _ _ _ _ us hl => match us, hl with | [_, _, _, _, _, _], _ => rfl
theorem ok__law_ends : DefOk T sp 20 f__law_ends d__law_ends := ⟨fun _ => bk__law_ends, kwOk_none rfl, ev__law_ends⟩
theorem bk__law_marks : BindOk d__law_marks ["_law_row_here", "_law_at", "_law_doors", "_law_sides"] := fun _ _ _ _ _ _ us hl => match us, hl with | [_, _, _, _], _ => rfl
theorem ok__law_marks : DefOk T sp 21 f__law_marks d__law_marks := ⟨fun _ => bk__law_marks, kwOk_none rfl, ev__law_marks⟩
theorem bk__law_fewer : BindOk d__law_fewer ["_law_before", "_law_after", "_law_mover"] := fun _ _ _ _ _ _ us hl => match us, hl with | [_, _, _], _ => rfl
theorem ok__law_fewer : DefOk T sp 22 f__law_fewer d__law_fewer := ⟨fun _ => bk__law_fewer, kwOk_none rfl, ev__law_fewer⟩
theorem bk__is_door : BindOk d__is_door ["rooms", "trades", "door"] := fun _ _ _ _ _ _ us hl => match us, hl with | [_, _, _], _ => rfl
theorem ok__is_door : DefOk T sp 23 f__is_door d__is_door := ⟨fun _ => bk__is_door, kwOk_none rfl, ev__is_door⟩
theorem bk_fits : BindOk d_fits ["house", "standing"] := fun _ _ _ _ _ _ us hl => match us, hl with | [_, _], _ => rfl
theorem ok_fits : DefOk T sp 24 f_fits d_fits := ⟨fun _ => bk_fits, kwOk_none rfl, ev_fits⟩
theorem bk_need_doors : BindOk d_need_doors ["house", "doors"] := fun _ _ _ _ _ _ us hl => match us, hl with | [_, _], _ => rfl
theorem ok_need_doors : DefOk T sp 25 f_need_doors d_need_doors := ⟨fun _ => bk_need_doors, kwOk_none rfl, ev_need_doors⟩
theorem bk_need_hands : BindOk d_need_hands ["standing", "hands"] := fun _ _ _ _ _ _ us hl => match us, hl with | [_, _], _ => rfl
theorem ok_need_hands : DefOk T sp 26 f_need_hands d_need_hands := ⟨fun _ => bk_need_hands, kwOk_none rfl, ev_need_hands⟩
theorem bk_need_two_trades : BindOk d_need_two_trades ["house", "standing"] := fun _ _ _ _ _ _ us hl => match us, hl with | [_, _], _ => rfl
theorem ok_need_two_trades : DefOk T sp 27 f_need_two_trades d_need_two_trades := ⟨fun _ => bk_need_two_trades, kwOk_none rfl, ev_need_two_trades⟩
theorem bk__may_pass : BindOk d__may_pass ["house", "hands", "places", "hand", "door"] := fun _ _ _ _ _ _ us hl => match us, hl with | [_, _, _, _, _], _ => rfl
theorem ok__may_pass : DefOk T sp 28 f__may_pass d__may_pass := ⟨fun _ => bk__may_pass, kwOk_none rfl, ev__may_pass⟩
theorem bk_after_deed : BindOk d_after_deed ["house", "standing", "hand", "door"] := fun _ _ _ _ _ _ us hl => match us, hl with | [_, _, _, _], _ => rfl
theorem ok_after_deed : DefOk T sp 29 f_after_deed d_after_deed := ⟨fun _ => bk_after_deed, kwOk_none rfl, ev_after_deed⟩
theorem bk_spread_over : BindOk d_spread_over ["house", "standing", "letters", "trade"] := fun _ _ _ _ _ _ us hl => match us, hl with | [_, _, _, _], _ => rfl
theorem ok_spread_over : DefOk T sp 30 f_spread_over d_spread_over := ⟨fun _ => bk_spread_over, kwOk_none rfl, ev_spread_over⟩
theorem bk__law_house : BindOk d__law_house ["_law_cell_here", "_law_most", "_law_extra", "_law_longest", "_law_odd"] := fun _ _ _ _ _ _ us hl => match us, hl with | [_, _, _, _, _], _ => rfl
theorem ok__law_house : DefOk T sp 31 f__law_house d__law_house := ⟨fun _ => bk__law_house, kwOk_none rfl, ev__law_house⟩
theorem bk__law_integers : BindOk d__law_integers ["_law_actual"] := fun _ _ _ _ _ _ us hl => match us, hl with | [_], _ => rfl
theorem ok__law_integers : DefOk T sp 32 f__law_integers d__law_integers := ⟨fun _ => bk__law_integers, kwOk_none rfl, ev__law_integers⟩
theorem bk__law_is_standing : BindOk d__law_is_standing ["_law_actual", "_law_hands", "_law_places"] := fun _ _ _ _ _ _ us hl => match us, hl with | [_, _, _], _ => rfl
theorem ok__law_is_standing : DefOk T sp 33 f__law_is_standing d__law_is_standing := ⟨fun _ => bk__law_is_standing, kwOk_none rfl, ev__law_is_standing⟩
theorem bk__law_possible : BindOk d__law_possible ["_law_doors", "_law_hands", "_law_places"] := fun _ _ _ _ _ _ us hl => match us, hl with | [_, _, _], _ => rfl
theorem ok__law_possible : DefOk T sp 34 f__law_possible d__law_possible := ⟨fun _ => bk__law_possible, kwOk_none rfl, ev__law_possible⟩
theorem bk__law_far : BindOk d__law_far ["_law_script", "_law_k"] := fun _ _ _ _ _ _ us hl => match us, hl with | [_, _], _ => rfl
theorem ok__law_far : DefOk T sp 35 f__law_far d__law_far := ⟨fun _ => bk__law_far, kwOk_none rfl, ev__law_far⟩
theorem bk__law_two_parts : BindOk d__law_two_parts ["_law_cell_here", "_law_extra", "_law_longest"] := fun _ _ _ _ _ _ us hl => match us, hl with | [_, _, _], _ => rfl
theorem ok__law_two_parts : DefOk T sp 36 f__law_two_parts d__law_two_parts := ⟨fun _ => bk__law_two_parts, kwOk_none rfl, ev__law_two_parts⟩
theorem bk__law_placed : BindOk d__law_placed ["_law_cell_here", "_law_rooms", "_law_doors", "_law_sides", "_law_least", "_law_most"] := fun _ _ _ _ _ _ us hl => match us, hl with | [_, _, _, _, _, _], _ => rfl
theorem ok__law_placed : DefOk T sp 37 f__law_placed d__law_placed := ⟨fun _ => bk__law_placed, kwOk_none rfl, ev__law_placed⟩
theorem bk__law_are_deeds : BindOk d__law_are_deeds ["_law_actual"] := fun _ _ _ _ _ _ us hl => match us, hl with | [_], _ => rfl
theorem ok__law_are_deeds : DefOk T sp 38 f__law_are_deeds d__law_are_deeds := ⟨fun _ => bk__law_are_deeds, kwOk_none rfl, ev__law_are_deeds⟩
theorem bk__law_is_house : BindOk d__law_is_house ["_law_actual", "_law_rooms", "_law_doors"] := fun _ _ _ _ _ _ us hl => match us, hl with | [_, _, _], _ => rfl
theorem ok__law_is_house : DefOk T sp 39 f__law_is_house d__law_is_house := ⟨fun _ => bk__law_is_house, kwOk_none rfl, ev__law_is_house⟩
theorem bk__law_reached : BindOk d__law_reached ["_law_rooms", "_law_doors", "_law_hands", "_law_marks_here", "_law_guild"] := fun _ _ _ _ _ _ us hl => match us, hl with | [_, _, _, _, _], _ => rfl
theorem ok__law_reached : DefOk T sp 40 f__law_reached d__law_reached := ⟨fun _ => bk__law_reached, kwOk_none rfl, ev__law_reached⟩
theorem kw_House_init : KwOk d_House_init f_House_init := by
  refine kwOk_one (s := "trades") rfl rfl rfl (fun K => rfl) (fun kn h => ?_) ?_ ?_
  · have h := List.contains_iff_mem.mp h
    simp [f_House_init] at h
    first | exact h | exact h.symm | exact .inl h | exact .inr h
  · exact fun _ D _ _ _ _ _ us m hl => match us, hl with | [_, _, _], _ => ⟨_, _, _, _, _, _, rfl, rfl, rfl⟩
  · exact fun h => by simp [f_House_init] at h
theorem ok_House_init : DefOk T sp 41 f_House_init d_House_init := ⟨fun h => (by cases h), kw_House_init, ev_House_init⟩
theorem bk__need_fits : BindOk d__need_fits ["house", "standing"] := fun _ _ _ _ _ _ us hl => match us, hl with | [_, _], _ => rfl
theorem ok__need_fits : DefOk T sp 42 f__need_fits d__need_fits := ⟨fun _ => bk__need_fits, kwOk_none rfl, ev__need_fits⟩
theorem bk_need_fits : BindOk d_need_fits ["house", "standing"] := fun _ _ _ _ _ _ us hl => match us, hl with | [_, _], _ => rfl
theorem ok_need_fits : DefOk T sp 43 f_need_fits d_need_fits := ⟨fun _ => bk_need_fits, kwOk_none rfl, ev_need_fits⟩
theorem bk_is_possible : BindOk d_is_possible ["house", "standing", "hand", "door"] := fun _ _ _ _ _ _ us hl => match us, hl with | [_, _, _, _], _ => rfl
theorem ok_is_possible : DefOk T sp 44 f_is_possible d_is_possible := ⟨fun _ => bk_is_possible, kwOk_none rfl, ev_is_possible⟩
theorem bk_shared_rooms : BindOk d_shared_rooms ["house", "standing", "back"] := fun _ _ _ _ _ _ us hl => match us, hl with | [_, _, _], _ => rfl
theorem ok_shared_rooms : DefOk T sp 45 f_shared_rooms d_shared_rooms := ⟨fun _ => bk_shared_rooms, kwOk_none rfl, ev_shared_rooms⟩
theorem bk__law_scene : BindOk d__law_scene ["_law_script", "_law_free", "_law_size"] := fun _ _ _ _ _ _ us hl => match us, hl with | [_, _, _], _ => rfl
theorem ok__law_scene : DefOk T sp 46 f__law_scene d__law_scene := ⟨fun _ => bk__law_scene, kwOk_none rfl, ev__law_scene⟩
theorem bk__letter_of : BindOk d__letter_of ["house", "standing", "door", "back"] := fun _ _ _ _ _ _ us hl => match us, hl with | [_, _, _, _], _ => rfl
theorem ok__letter_of : DefOk T sp 47 f__letter_of d__letter_of := ⟨fun _ => bk__letter_of, kwOk_none rfl, ev__letter_of⟩
theorem bk_do : BindOk d_do ["house", "standing", "hand", "door"] := fun _ _ _ _ _ _ us hl => match us, hl with | [_, _, _, _], _ => rfl
theorem ok_do : DefOk T sp 48 f_do d_do := ⟨fun _ => bk_do, kwOk_none rfl, ev_do⟩
theorem bk_possible_deeds : BindOk d_possible_deeds ["house", "standing"] := fun _ _ _ _ _ _ us hl => match us, hl with | [_, _], _ => rfl
theorem ok_possible_deeds : DefOk T sp 49 f_possible_deeds d_possible_deeds := ⟨fun _ => bk_possible_deeds, kwOk_none rfl, ev_possible_deeds⟩
theorem bk_replay : BindOk d_replay ["house", "standing", "run"] := fun _ _ _ _ _ _ us hl => match us, hl with | [_, _, _], _ => rfl
theorem ok_replay : DefOk T sp 50 f_replay d_replay := ⟨fun _ => bk_replay, kwOk_none rfl, ev_replay⟩
theorem bk_spread_of : BindOk d_spread_of ["house", "standing", "trade"] := fun _ _ _ _ _ _ us hl => match us, hl with | [_, _, _], _ => rfl
theorem ok_spread_of : DefOk T sp 51 f_spread_of d_spread_of := ⟨fun _ => bk_spread_of, kwOk_none rfl, ev_spread_of⟩
theorem bk_meeting_rooms : BindOk d_meeting_rooms ["house", "standing"] := fun _ _ _ _ _ _ us hl => match us, hl with | [_, _], _ => rfl
theorem ok_meeting_rooms : DefOk T sp 52 f_meeting_rooms d_meeting_rooms := ⟨fun _ => bk_meeting_rooms, kwOk_none rfl, ev_meeting_rooms⟩
theorem bk_light_of : BindOk d_light_of ["house", "standing", "door"] := fun _ _ _ _ _ _ us hl => match us, hl with | [_, _, _], _ => rfl
theorem ok_light_of : DefOk T sp 53 f_light_of d_light_of := ⟨fun _ => bk_light_of, kwOk_none rfl, ev_light_of⟩
theorem bk_is_live : BindOk d_is_live ["house", "standing"] := fun _ _ _ _ _ _ us hl => match us, hl with | [_, _], _ => rfl
theorem ok_is_live : DefOk T sp 54 f_is_live d_is_live := ⟨fun _ => bk_is_live, kwOk_none rfl, ev_is_live⟩
theorem bk__law_moment : BindOk d__law_moment ["_law_house_here", "_law_standing", "_law_rooms", "_law_doors", "_law_hands", "_law_marks_here"] := fun _ _ _ _ _ _ us hl => match us, hl with | [_, _, _, _, _, _], _ => rfl
theorem ok__law_moment : DefOk T sp 55 f__law_moment d__law_moment := ⟨fun _ => bk__law_moment, kwOk_none rfl, ev__law_moment⟩
theorem bk__law_lit : BindOk d__law_lit ["_law_house_here", "_law_standing", "_law_doors", "_law_marks_here"] := fun _ _ _ _ _ _ us hl => match us, hl with | [_, _, _, _], _ => rfl
theorem ok__law_lit : DefOk T sp 56 f__law_lit d__law_lit := ⟨fun _ => bk__law_lit, kwOk_none rfl, ev__law_lit⟩
theorem bk_law : BindOk d_law ["_law_script"] := fun _ _ _ _ _ _ us hl => match us, hl with | [_], _ => rfl
theorem ok_law : DefOk T sp 57 f_law d_law := ⟨fun _ => bk_law, kwOk_none rfl, ev_law⟩
theorem allOk : AllOk T sp 0 T.fn D := ⟨ok_is_index, ok__are_trades, ok__is_connected, ok_Standing_init, ok__is_trade, ok_lights_at, ok_need_trade, ok_need_no_masters, ok_Run_init, ok__step, ok_rooms_of, ok_walk_from, ok__law_cell, ok__law_row, ok__law_odd_cycle, ok__law_any_cycle, ok__law_is_integer, ok__law_deed, ok__law_lights, ok__law_spread, ok__law_ends, ok__law_marks, ok__law_fewer, ok__is_door, ok_fits, ok_need_doors, ok_need_hands, ok_need_two_trades, ok__may_pass, ok_after_deed, ok_spread_over, ok__law_house, ok__law_integers, ok__law_is_standing, ok__law_possible, ok__law_far, ok__law_two_parts, ok__law_placed, ok__law_are_deeds, ok__law_is_house, ok__law_reached, ok_House_init, ok__need_fits, ok_need_fits, ok_is_possible, ok_shared_rooms, ok__law_scene, ok__letter_of, ok_do, ok_possible_deeds, ok_replay, ok_spread_of, ok_meeting_rooms, ok_light_of, ok_is_live, ok__law_moment, ok__law_lit, ok_law, trivial⟩
theorem chk : chkAll T T.fn D = true := by decide +kernel
end Lt
set_option maxHeartbeats 0
namespace Lt
open Lh PySem PySem.Spec PyProof.Rows L2
theorem factsX {P : Program} {w : World} {K : PySem.W.Frag} {h : Heap} {mg : Str → Option Value} {f : Addr} (X : K.In h) (G : h.Ns mainGlobals mg) (hfa : mg ("law" : Str) = some (.ref f)) (c : He.SaysD (faOf T) D K) (hi : isiB T.cl K = true) :
    ∃ fd : FuncData, (∀ (s : Shared) (v : Value), BindsTo s fd ⟨[v], []⟩ [("_law_script", v)]) ∧ ∀ base : Heap, FnOk P w K mg base CX0 14 f fd ["_law_script"] (spF (cnOf T K) sp 57 [.va]) := by
  have X0 : TxtOk T D sp K mg := ⟨c, hi, ⟨h, X, G⟩, by decide +kernel, by decide +kernel, by decide +kernel, by decide +kernel, chk, allOk⟩
  have e : mg ("law" : Str) = some (.ref (He.ga K "law")) := X0.glo_f (f := f_law) (List.mem_of_getElem? (i := 57) rfl) rfl
  have ef := hfa.symm.trans e
  cases ef
  obtain ⟨fd, F, _, _⟩ := X0.fn P w h 7 57 f_law d_law rfl rfl (by decide)
  refine ⟨fd, fun s v => FunD.bindsA (ps := ["_law_script"]) F (fun _ _ _ _ _ _ us hl => match us, hl with | [_], _ => rfl) s [v] rfl, fun base => ?_⟩
  obtain ⟨fd2, F2, ok, _⟩ := X0.fn P w base 7 57 f_law d_law rfl rfl (by decide)
  obtain rfl : fd = fd2 := by
    obtain ⟨_, _, _, _, _, _, _, _, _, _, _, lk, _⟩ := F.ex
    obtain ⟨_, _, _, _, _, _, _, _, _, _, _, lk2, _⟩ := F2.ex
    have := lk.symm.trans lk2
    injection this with this
    injection this with _ _ h3 _
    injection h3
  exact ok
end Lt
open PySem PySem.W PySem.Calls PyProof.Rows
theorem PySem.Challenge.cw_lanternhouse_k85_whole_dead_runs_holds : PySem.Challenge.rw_lanternhouse_k85_whole_dead_runs.Holds := by
  w_on; o_law
  refine HandSHeadRun.head_any (r := OpenLaw.row PySem.Challenge.rw_lanternhouse_k85_whole_dead_runs) (q := view (OpenLaw.row PySem.Challenge.rw_lanternhouse_k85_whole_dead_runs).prog [73]) (H := Lt.hkX) (ob := Lt.obW) (M := 30000) (loose := Lt.loose) (d := HandSHeadRun.topDef (OpenLaw.row PySem.Challenge.rw_lanternhouse_k85_whole_dead_runs).prog 73) (kwd := []) Lt.obW_eq
    (by kernel_rfl) (fun s => by kernel_rfl) Lt.runs (by kernel_rfl) (by kernel_rfl) (by kernel_rfl) (by rfl) (by first | assumption | decide +kernel) (by decide +kernel) ⟨rfl, rfl, rfl, rfl, rfl, by decide +kernel⟩ ?hw ?hc
  case hw => w_witness2
  case hc =>
    refine L2.walk_ofE (l := PySem.Challenge.rw_lanternhouse_k85_whole_dead_runs) (n := 63) (k := 14) (x := "_law_script") (CX := L2.CX0) rfl (by decide) (by kernel_rfl) ⟨rfl, by decide, by decide⟩ ?F (fun _ _ _ _ z => z)
    intro w mg fa h Y G hmg0
    obtain ⟨K, KX, c⟩ := Y
    have hmg : mg ("law" : PySem.Str) = some (.ref fa) := by
      have e : (HandSHeadRun.topDef (OpenLaw.row PySem.Challenge.rw_lanternhouse_k85_whole_dead_runs).prog 73).name = ("law" : PySem.Str) := by kernel_rfl
      rw [← e]
      exact hmg0
    obtain ⟨fd, hb, hF⟩ := Lt.factsX (P := (PySem.Challenge.rw_lanternhouse_k85_whole_dead_runs).prog) (w := w) KX G hmg c.t.d c.more
    refine ⟨K, fd, Lh.spF (Lh.cnOf Lt.T K) Lt.sp 57 [.va], KX, hb, fun H a ns hl _ hS => ?_, fun base _ _ => hF base⟩
    exact Lh.law_start hS (show Lt.s_law [.fz (.ro (ns.map .int))] (fun p _ => p = .bl true) from ⟨ns, rfl, rfl⟩)
