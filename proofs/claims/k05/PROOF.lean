import PyProof.Rows.All
import HandS.List
import KE.LtData
import HandS.Base
import HandS.Call
import HandS.Comp
import HandS.Ends
import HandS.Words
import HandS.WordsList
import HandS.WordsExc
import HandS.Exc
import HandS.ExcOwn
import HandS.TryOnly
import HandS.Lambda
import HandS.Nested
import KE.KDflt
import HandS.TupLe
import KE.SortCalls
import HandS.TupMul
import HandS.TupAny
import HandS.Text
import HandS.IsInst
import HandS.Deep
import HandS.Conv
import HandS.Iter
import PyProof.Rows.CountFlat
import HandS.Strs
import HandS.Style
import HandS.Dict
import HandS.SortRule
import KE.SortData
import KE.KDictPairs
import HandS.ExcInit
import KE.KExcSuper
import HandS.Small
import HandS.ExcIs
import HandS.ExcField
import KE.KExcIs
import PyProof.ExcBaseAll.ValueError
import HandS.HeadHook4
import HandS.HeadWalk
import Wide.All
import OpenK.AllK
import Wide.FinOn
import KE.KStateDown
import HandS.Head0
import HandS.Head1
import HandS.Head2
import HandS.NestedK
import PySem.Challenge.RW_stagebelt_k05_whole_plain
set_option linter.all false
set_option autoImplicit false
namespace MP
open PySem

inductive IV where
  | non
  | bl (b : Bool)
  | int (i : Int)
  | str (x : Str)
  | tup (xs : List IV)
  | frz (ns : List Int)
  | ref (r : Nat)
  deriving Inhabited

mutual
def IV.eqb : IV → IV → Bool
  | .non, .non => true
  | .bl a, .bl b => a == b
  | .int a, .int b => a == b
  | .str a, .str b => decide (a = b)
  | .tup xs, .tup ys => IV.eqbs xs ys
  | .frz a, .frz b => decide (a = b)
  | .ref a, .ref b => a == b
  | _, _ => false
def IV.eqbs : List IV → List IV → Bool
  | [], [] => true
  | x :: xs, y :: ys => IV.eqb x y && IV.eqbs xs ys
  | _, _ => false
end
mutual
theorem IV.eqb_eq : ∀ {a b : IV}, IV.eqb a b = true → a = b
  | .non, b, h => by cases b <;> simp_all [IV.eqb]
  | .bl _, b, h => by cases b <;> simp_all [IV.eqb]
  | .int _, b, h => by cases b <;> simp_all [IV.eqb]
  | .str _, b, h => by cases b <;> simp_all [IV.eqb]
  | .tup xs, b, h => by
    cases b <;> simp only [IV.eqb, Bool.false_eq_true] at h
    rw [IV.eqbs_eq h]
  | .frz _, b, h => by cases b <;> simp_all [IV.eqb]
  | .ref _, b, h => by cases b <;> simp_all [IV.eqb]
theorem IV.eqbs_eq : ∀ {a b : List IV}, IV.eqbs a b = true → a = b
  | [], b, h => by cases b <;> simp_all [IV.eqbs]
  | x :: xs, b, h => by
    cases b with
    | nil => simp [IV.eqbs] at h
    | cons y ys =>
      simp only [IV.eqbs, Bool.and_eq_true] at h
      rw [IV.eqb_eq h.1, IV.eqbs_eq h.2]
end
mutual
theorem IV.eqb_rfl : ∀ (a : IV), IV.eqb a a = true
  | .non => rfl
  | .bl _ => by simp [IV.eqb]
  | .int _ => by simp [IV.eqb]
  | .str _ => by simp [IV.eqb]
  | .tup xs => by simp only [IV.eqb]; exact IV.eqbs_rfl xs
  | .frz _ => by simp [IV.eqb]
  | .ref _ => by simp [IV.eqb]
theorem IV.eqbs_rfl : ∀ (a : List IV), IV.eqbs a a = true
  | [] => rfl
  | x :: xs => by simp only [IV.eqbs, Bool.and_eq_true]; exact ⟨IV.eqb_rfl x, IV.eqbs_rfl xs⟩
end

mutual
def IV.low (n : Nat) : IV → Bool
  | .tup xs => IV.lows n xs
  | .ref r => decide (r < n)
  | _ => true
def IV.lows (n : Nat) : List IV → Bool
  | [] => true
  | x :: xs => IV.low n x && IV.lows n xs
end

inductive IO where
  | lst (xs : List IV)
  | dic (kvs : List (IV × IV))
  /-- a dict whose keys are whole numbers and texts -/
  | dk (kvs : List (IV × IV))
  | ins (c : Nat) (fs : List (Option IV))
  deriving Inhabited

def lowO (n : Nat) : Option IV → Bool
  | none => true
  | some x => x.low n
def lowK (n : Nat) : List (IV × IV) → Bool
  | [] => true
  | (k, v) :: r => k.low n && v.low n && lowK n r
def IO.low (n : Nat) : IO → Bool
  | .lst xs => IV.lows n xs
  | .dic kvs => lowK n kvs
  | .dk kvs => lowK n kvs
  | .ins _ fs => fs.all (lowO n)
def eqK : List (IV × IV) → List (IV × IV) → Bool
  | [], [] => true
  | (a, b) :: r, (c, d) :: s => a.eqb c && b.eqb d && eqK r s
  | _, _ => false
def eqF : List (Option IV) → List (Option IV) → Bool
  | [], [] => true
  | none :: r, none :: s => eqF r s
  | some a :: r, some b :: s => a.eqb b && eqF r s
  | _, _ => false
def IO.eqb : IO → IO → Bool
  | .lst a, .lst b => IV.eqbs a b
  | .dic a, .dic b => eqK a b
  | .dk a, .dk b => eqK a b
  | .ins c a, .ins d b => c == d && eqF a b
  | _, _ => false
theorem eqK_eq : ∀ {a b : List (IV × IV)}, eqK a b = true → a = b
  | [], b, h => by cases b <;> simp_all [eqK]
  | (x, y) :: r, b, h => by
    cases b with
    | nil => simp [eqK] at h
    | cons p s =>
      obtain ⟨c, d⟩ := p
      simp only [eqK, Bool.and_eq_true] at h
      rw [IV.eqb_eq h.1.1, IV.eqb_eq h.1.2, eqK_eq h.2]
theorem eqF_eq : ∀ {a b : List (Option IV)}, eqF a b = true → a = b
  | [], b, h => by cases b <;> simp_all [eqF]
  | none :: r, b, h => by
    cases b with
    | nil => simp [eqF] at h
    | cons p s =>
      cases p with
      | none => simp only [eqF] at h; rw [eqF_eq h]
      | some y => simp [eqF] at h
  | some x :: r, b, h => by
    cases b with
    | nil => simp [eqF] at h
    | cons p s =>
      cases p with
      | none => simp [eqF] at h
      | some y => simp only [eqF, Bool.and_eq_true] at h; rw [IV.eqb_eq h.1, eqF_eq h.2]
theorem IO.eqb_eq {a b : IO} (h : IO.eqb a b = true) : a = b := by
  cases a <;> cases b <;> simp only [IO.eqb, Bool.false_eq_true, Bool.and_eq_true] at h
  · rw [IV.eqbs_eq h]
  · rw [eqK_eq h]
  · rw [eqK_eq h]
  · rw [eqF_eq h.2, beq_iff_eq.mp h.1]
theorem eqK_rfl : ∀ (a : List (IV × IV)), eqK a a = true
  | [] => rfl
  | (x, y) :: r => by simp only [eqK, Bool.and_eq_true]; exact ⟨⟨IV.eqb_rfl x, IV.eqb_rfl y⟩, eqK_rfl r⟩
theorem eqF_rfl : ∀ (a : List (Option IV)), eqF a a = true
  | [] => rfl
  | none :: r => by simp only [eqF]; exact eqF_rfl r
  | some x :: r => by simp only [eqF, Bool.and_eq_true]; exact ⟨IV.eqb_rfl x, eqF_rfl r⟩
theorem IO.eqb_rfl (a : IO) : IO.eqb a a = true := by
  cases a <;> simp only [IO.eqb, Bool.and_eq_true]
  · exact IV.eqbs_rfl _
  · exact eqK_rfl _
  · exact eqK_rfl _
  · exact ⟨beq_self_eq_true _, eqF_rfl _⟩

abbrev Store := List IO
/-- what a call may leave: each old object as it was, or free of new refs -/
def okPre (n : Nat) : Store → Store → Bool
  | [], _ => true
  | _ :: _, [] => false
  | a :: s, b :: t => (IO.eqb a b || b.low n) && okPre n s t
theorem okPre_app (n : Nat) : ∀ (s g : Store), okPre n s (s ++ g) = true
  | [], _ => rfl
  | a :: s, g => by
    simp only [List.cons_append, okPre, IO.eqb_rfl, Bool.true_or, Bool.true_and]
    exact okPre_app n s g
theorem okPre_self (n : Nat) (s : Store) : okPre n s s = true := by
  have := okPre_app n s []
  rwa [List.append_nil] at this

/-- a value on its way: settled, or a new list that nobody else holds -/
inductive TV where
  | v (x : IV)
  | l (xs : List IV)
  | s (xs : List IV)
  | d (kvs : List (IV × IV))
  deriving Inhabited
structure Exn where
  cls : Nat
  val : Option IV
  deriving Inhabited
inductive Res (α : Type) where
  | ok (a : α) (st : Store)
  | exc (e : Exn) (st : Store)
  | bad
def Res.bind {α β : Type} : Res α → (α → Store → Res β) → Res β
  | .ok a st, f => f a st
  | .exc e st, _ => .exc e st
  | .bad, _ => .bad

structure Env where
  sl : List (Option IV)
  hx : Option Exn := none
  /-- slots that hold a list of the frame's lambdas -/
  lm : List (Nat × List Nat) := []
inductive RS where
  | nx (env : Env) (st : Store)
  | rt (v : TV) (st : Store)
  | bk (env : Env) (st : Store)
  | ct (env : Env) (st : Store)
  | exc (e : Exn) (env : Env) (st : Store)
  | bad

inductive BOp where | add | sub | mul | fdiv | mod | pow
  deriving DecidableEq
inductive COp where | eq | ne | lt | le | gt | ge | inn | nin
  deriving DecidableEq
inductive Ty where | int | bool | str | tuple | list
  deriving DecidableEq
/-- built-ins called by name with one or two arguments -/
inductive Bi where
  | len | all | any | sum | int | str | tuple | list | sorted | max | min | set | dict | max2 | min2
  deriving DecidableEq
/-- methods of built-in types -/
inductive Bm where
  | append | extend | index | get1 | get2 | join | split | count
  deriving DecidableEq

mutual
inductive E where
  | v (i : Nat)
  | c (x : IV)
  | g (nm : Str) (x : IV)
  | tup (es : List E)
  | lst (es : List E)
  | dic (ks vs : List E)
  | bin (op : BOp) (a b : E)
  | neg (a : E)
  | cmp (op : COp) (a b : E)
  | chain (o1 o2 : COp) (a b c : E)
  | isN (a : E)
  | notN (a : E)
  /-- x is True, x is not True .. of bools -/
  | isB (pos b : Bool) (a : E)
  | chain3 (o1 o2 o3 : COp) (a b c d : E)
  /-- xs.index(x): of a tuple of texts, or of a list -/
  | ixof (tup : Bool) (a e : E)
  /-- xs.count(b), of a list of bools -/
  | cntB (a e : E)
  /-- {}, of keys that are tuples -/
  | dnew
  /-- d[k, ..], d.get((k, ..), x), (k, ..) in d, sorted(list(d)) -/
  | dget (a : E) (ks : List E)
  | dgetD (a : E) (ks : List E) (d : E)
  | din (pos : Bool) (ks : List E) (a : E)
  | dsort (a : E)
  /-- dicts whose kind shows when they are met: d[k], d.get(k, x), k in d -/
  | kget (a k : E)
  | kgetD (a k d : E)
  | kin (pos : Bool) (k a : E)
  /-- {} for keys that are numbers or texts; {k: v, ..} of such -/
  | knew
  | kdisp (ks vs : List E)
  /-- dict([pairs]), keys tuples -/
  | dmk (a : E)
  /-- list(d) -/
  | dlist (a : E)
  /-- sorted(list) of data -/
  | sortT (a : E)
  /-- NAME.index(x), NAME[i].index(x), of a constant's texts -/
  | ixN (nm : Str) (y : IV) (e : E)
  | ixT (nm : Str) (y : IV) (i e : E)
  | and_ (a : E) (es : List E)
  | or_ (a : E) (es : List E)
  | not_ (a : E)
  | ite (t a b : E)
  | idx (a b : E)
  | sl (a lo hi : E)
  | nob
  | call (fd : FnDef) (es : List E)
  | self (es : List E)
  | bi (f : Bi) (es : List E)
  | isI (a : E) (ts : List Ty)
  | bm (f : Bm) (a : E) (es : List E)
  | attr (a : E) (c j : Nat) (nm : Str)
  | meth (a : E) (c : Nat) (fd : FnDef) (es : List E)
  | make (c : Nat) (nm : Str) (nf : Nat) (init : FnDef) (es : List E)
  | comp (own : List Nat) (pt : Pt) (it : It) (ifs : List E) (e : E)
  | comp2 (own own1 : List Nat) (pt : Pt) (it : It) (ifs : List E) (pt1 : Pt) (it1 : It) (ifs1 : List E) (e : E)
  | hIs (c : Nat) (nm : Str)
  | hFld (c : Nat) (f : Str)
  /-- never reached -/
  | dead
  /-- the closure at hand is called -/
  | act
  /-- a def that calls what it gets, given the frame's lambda k -/
  | wlit (k : Nat)
  /-- .. given a lambda of the list at slot i -/
  | wat (i : Nat) (e : E)
inductive Pt where
  | v (i : Nat)
  | tup (ps : List Pt)
  | idx (a b : E)
  | attr (a : E) (c j : Nat) (nm : Str)
inductive It where
  | e (e : E)
  | rng1 (a : E)
  | rng2 (a b : E)
  | rng3 (a b c : E)
inductive S where
  | asg (pt : Pt) (e : E)
  | aug (i : Nat) (op : BOp) (e : E)
  | augA (a : E) (c j : Nat) (nm : Str) (op : BOp) (e : E)
  | ex (e : E)
  | ret (e : E)
  | ret0
  | pass
  | brk
  | cont
  | ite (t : E) (a b : List S)
  | whl (t : E) (b : List S)
  | for_ (pt : Pt) (it : It) (b : List S)
  | raise (c : Nat) (nm : Str) (es : List E)
  | try_ (b : List S) (c : Nat) (nm : Str) (slot : Nat) (h : List S)
  | tryO (b : List S) (c : Nat) (nm : Str) (h : List S)
  | dead
  /-- d[k, ..] = x -/
  | dput (a : E) (ks : List E) (e : E)
  | kput (a k e : E)
  /-- name = [lambda ..], or name = name + [lambda ..] -/
  | lams (i : Nat) (app : Bool) (ks : List Nat)
inductive FnDef where
  /-- ws: the frame's lambdas, each with the def to be run for it and the slots that it captures -/
  | mk (nm : Str) (np : Nat) (N : List Str) (body : List S) (ws : List (Nat × FnDef × List Nat))
end
def FnDef.nm : FnDef → Str | .mk n _ _ _ _ => n
def FnDef.np : FnDef → Nat | .mk _ n _ _ _ => n
def FnDef.N : FnDef → List Str | .mk _ _ n _ _ => n
def FnDef.body : FnDef → List S | .mk _ _ _ b _ => b
def FnDef.ws : FnDef → List (Nat × FnDef × List Nat) | .mk _ _ _ _ w => w

/-! ## operations -/
mutual
/-- data without refs -/
def IV.plain : IV → Bool
  | .tup xs => IV.plains xs
  | .str x => PyData.strOk x
  | .ref _ => false
  | .frz _ => false
  | _ => true
def IV.plains : List IV → Bool
  | [] => true
  | x :: xs => IV.plain x && IV.plains xs
end
mutual
def IV.dep : IV → Nat
  | .tup xs => IV.deps xs + 1
  | _ => 0
def IV.deps : List IV → Nat
  | [] => 0
  | x :: xs => max (IV.dep x) (IV.deps xs)
end
mutual
/-- == of Python, of data without refs -/
def pyEq : IV → IV → Bool
  | .non, .non => true
  | .bl a, .bl b => a == b
  | .bl a, .int j => (if a then 1 else 0) == j
  | .int i, .bl b => i == (if b then 1 else 0)
  | .int i, .int j => i == j
  | .str x, .str y => decide (x = y)
  | .tup xs, .tup ys => pyEqs xs ys
  | _, _ => false
def pyEqs : List IV → List IV → Bool
  | [], [] => true
  | x :: xs, y :: ys => pyEq x y && pyEqs xs ys
  | _, _ => false
end
/-- what a value holds: itself, or a list's items -/
inductive Cont where
  | v (x : IV)
  | l (xs : List IV)
def cont (st : Store) : TV → Option Cont
  | .v (.ref r) => match st[r]? with
    | some (.lst xs) => if IV.plains xs then some (.l xs) else none
    | _ => none
  | .v (.frz ns) => some (.l (ns.map .int))
  | .v x => if x.plain then some (.v x) else none
  | .l xs => if IV.plains xs then some (.l xs) else none
  | _ => none
def Cont.dep : Cont → Nat
  | .v x => x.dep
  | .l xs => IV.deps xs + 1
def Cont.eq : Cont → Cont → Bool
  | .v x, .v y => pyEq x y
  | .l xs, .l ys => pyEqs xs ys
  | _, _ => false
def lineN : Nat := 16777216
/-- a list's or tuple's items -/
def itemsL (st : Store) : TV → Option (List IV)
  | .v (.ref r) => match st[r]? with
    | some (.lst xs) => some xs
    | _ => none
  | .v (.frz ns) => some (ns.map .int)
  | .l xs => some xs
  | _ => none
/-- .. of a list that is not the script -/
def itemsM (st : Store) : TV → Option (List IV)
  | .v (.ref r) => match st[r]? with
    | some (.lst xs) => some xs
    | _ => none
  | .l xs => some xs
  | _ => none
def itemsLT (st : Store) : TV → Option (List IV)
  | .v (.tup xs) => some xs
  | x => itemsL st x

def mat : TV → Store → Res IV
  | .v x, st => .ok x st
  | .l xs, st => .ok (.ref st.length) (st ++ [.lst xs])
  | .d kvs, st => .ok (.ref st.length) (st ++ [.dic kvs])
  | .s _, _ => .bad
def mats : List TV → Store → Res (List IV)
  | [], st => .ok [] st
  | x :: xs, st => (mat x st).bind fun y st => (mats xs st).bind fun ys st => .ok (y :: ys) st

def small (i : Int) : Bool := decide (-18446744073709551616 < i) && decide (i < 18446744073709551616)
def binM : BOp → TV → TV → Store → Res TV
  | .add, .v (.int i), .v (.int j), st => .ok (.v (.int (i + j))) st
  | .add, .v (.str x), .v (.str y), st => if x.length + y.length ≤ lineN then .ok (.v (.str (x ++ y))) st else .bad
  | .add, .v (.tup x), .v (.tup y), st => if x.length + y.length ≤ lineN then .ok (.v (.tup (x ++ y))) st else .bad
  | .add, x, y, st => match itemsM st x, itemsM st y with
    | some xs, some ys => if xs.length + ys.length ≤ lineN then .ok (.l (xs ++ ys)) st else .bad
    | _, _ => .bad
  | .sub, .v (.int i), .v (.int j), st => .ok (.v (.int (i - j))) st
  | .mul, .v (.int i), .v (.int j), st => if small i || small j then .ok (.v (.int (i * j))) st else .bad
  | .mul, .l xs, .v (.int j), st => if 0 ≤ j ∧ j ≤ 1000 ∧ xs.length ≤ 1000 then .ok (.l (List.replicate j.toNat xs).flatten) st else .bad
  | .mul, .v (.tup xs), .v (.int j), st => if 0 ≤ j ∧ j ≤ 1000 ∧ xs.length ≤ 1000 ∧ 0 < xs.length then .ok (.v (.tup (List.replicate j.toNat xs).flatten)) st else .bad
  | .fdiv, .v (.int i), .v (.int j), st => if 0 < j ∧ j < 1073741824 then .ok (.v (.int (i / j))) st else .bad
  | .mod, .v (.int i), .v (.int j), st => if 0 < j then .ok (.v (.int (i % j))) st else .bad
  | .pow, .v (.int i), .v (.int j), st => if 0 ≤ j ∧ j ≤ 1000 ∧ small i then .ok (.v (.int (i ^ j.toNat))) st else .bad
  | _, _, _, _ => .bad

def ordM (f : Int → Int → Bool) : TV → TV → Store → Res TV
  | .v (.int i), .v (.int j), st => .ok (.v (.bl (f i j))) st
  | _, _, _ => .bad
def eqM (x y : TV) (st : Store) : Option Bool :=
  match cont st x, cont st y with
  | some a, some b => if min a.dep b.dep ≤ 60 then some (a.eq b) else none
  | _, _ => none
def anyEq (x : IV) : List IV → Bool
  | [] => false
  | y :: ys => pyEq y x || anyEq x ys
/-! dicts whose keys are tuples of whole numbers and texts -/
def IV.key1 : IV → Bool
  | .int _ => true
  | .str _ => true
  | _ => false
/-- tuples that are made at run time alone: no constant of the written part has such a form -/
def keyT : List IV → Bool
  | [.int _, .int _] => true
  | [.str _, .str _, .str _, .int _] => true
  | [.str _, .str _, .str _, .str _, .int _] => true
  | _ => false
def keyIs (k : List IV) : IV → Bool
  | .tup a => IV.eqbs a k
  | _ => false
def kLook (k : List IV) : List (IV × IV) → Option IV
  | [] => none
  | (a, b) :: r => if keyIs k a then some b else kLook k r
def kPut (k : List IV) (v : IV) (kvs : List (IV × IV)) : List (IV × IV) :=
  if (kLook k kvs).isSome then kvs.map fun p => if keyIs k p.1 then (p.1, v) else p else kvs ++ [(.tup k, v)]
def dicAt (st : Store) : TV → Option (Nat × List (IV × IV))
  | .v (.ref r) => match st[r]? with
    | some (.dic kvs) => some (r, kvs)
    | _ => none
  | _ => none
def isDic (st : Store) (x : TV) : Bool := (dicAt st x).isSome
def dgetM (k : List IV) (x : TV) (st : Store) : Res TV := match dicAt st x with
  | some (_, kvs) => (match kLook k kvs with | some v => .ok (.v v) st | none => .bad)
  | none => .bad
def dgetDM (k : List IV) (x y : TV) (st : Store) : Res TV := match dicAt st x, y with
  | some (_, kvs), .v d => .ok (.v ((kLook k kvs).getD d)) st
  | _, _ => .bad
def dinM (pos : Bool) (k : List IV) (x : TV) (st : Store) : Res TV := match dicAt st x with
  | some (_, kvs) => .ok (.v (.bl (if pos then (kLook k kvs).isSome else !(kLook k kvs).isSome))) st
  | none => .bad
/-- dicts of numbers and texts -/
def kLook1 (k : IV) : List (IV × IV) → Option IV
  | [] => none
  | (a, b) :: r => if a.eqb k then some b else kLook1 k r
def kPut1 (k v : IV) (kvs : List (IV × IV)) : List (IV × IV) :=
  if (kLook1 k kvs).isSome then kvs.map fun p => if p.1.eqb k then (p.1, v) else p else kvs ++ [(k, v)]
/-- what stands under a key; none: no dict, or no key of its kind -/
def kgetO (x : TV) (k : IV) (st : Store) : Option (Option IV) := match x with
  | .v (.ref r) => match st[r]? with
    | some (.dic kvs) => (match k with | .tup xs => if keyT xs then some (kLook xs kvs) else none | _ => none)
    | some (.dk kvs) => if k.key1 then some (kLook1 k kvs) else none
    | _ => none
  | _ => none
def kputO (x : TV) (k z : IV) (st : Store) : Option Store := match x with
  | .v (.ref r) => match st[r]? with
    | some (.dic kvs) => (match k with | .tup xs => if keyT xs && decide (kvs.length < lineN) then some (st.set r (.dic (kPut xs z kvs))) else none | _ => none)
    | some (.dk kvs) => if k.key1 && decide (kvs.length < lineN) then some (st.set r (.dk (kPut1 k z kvs))) else none
    | _ => none
  | _ => none
def isDict (st : Store) : TV → Bool
  | .v (.ref r) => match st[r]? with
    | some (.dic _) => true
    | some (.dk _) => true
    | _ => false
  | _ => false
def kgetM (x : TV) (k : IV) (st : Store) : Res TV := match kgetO x k st with
  | some (some v) => .ok (.v v) st
  | _ => .bad
def kgetDM (x : TV) (k : IV) (y : TV) (st : Store) : Res TV := match kgetO x k st, y with
  | some o, .v d => .ok (.v (o.getD d)) st
  | _, _ => .bad
def kinM (pos : Bool) (x : TV) (k : IV) (st : Store) : Res TV := match kgetO x k st with
  | some o => .ok (.v (.bl (if pos then o.isSome else !o.isSome))) st
  | none => .bad
/-- a key on its way -/
def asKey (r : Res TV) : Res IV := r.bind fun x st => match x with
  | .v k => .ok k st
  | _ => .bad
/-- the pairs of a list, keys tuples -/
def kPairs : List IV → Option (List (List IV × IV))
  | [] => some []
  | .tup [.tup k, v] :: r => if keyT k then (kPairs r).map ((k, v) :: ·) else none
  | _ => none
def kFold (ps : List (List IV × IV)) (kvs : List (IV × IV)) : List (IV × IV) := ps.foldl (fun acc p => kPut p.1 p.2 acc) kvs
def dmkM (x : TV) (st : Store) : Res TV := match (itemsM st x).bind kPairs with
  | some ps => if ps.length < lineN then .ok (.v (.ref st.length)) (st ++ [.dic (kFold ps [])]) else .bad
  | none => .bad
def dlistM (x : TV) (st : Store) : Res TV := match dicAt st x with
  | some (_, kvs) => .ok (.l (kvs.map (·.1))) st
  | none => .bad
/-- a display's pairs -/
def kDisp : List IV → List IV → List (IV × IV) → List (IV × IV)
  | k :: ks, v :: vs, acc => kDisp ks vs (kPut1 k v acc)
  | _, _, acc => acc
/-! order of data -/
mutual
/-- one form, place by place -/
def sameF : IV → IV → Bool
  | .bl _, .bl _ => true
  | .int _, .int _ => true
  | .str _, .str _ => true
  | .tup xs, .tup ys => sameFs xs ys
  | _, _ => false
def sameFs : List IV → List IV → Bool
  | [], [] => true
  | x :: xs, y :: ys => sameF x y && sameFs xs ys
  | _, _ => false
end
mutual
def toD : IV → PyData
  | .non => .none
  | .bl b => .bool b
  | .int i => .int i
  | .str x => .str x
  | .tup xs => .tuple (toDs xs)
  | .frz ns => .list (ns.map .int)
  | .ref _ => .none
def toDs : List IV → List PyData
  | [] => []
  | x :: xs => toD x :: toDs xs
end
/-- x < y -/
def dLt (x y : IV) : Bool := PySem.W.dataLt (toD x) (toD y)
def headOf : IV → Option Str
  | .tup (.str h :: _) => some h
  | _ => none
def repOf (h : Str) : List IV → Option IV
  | [] => none
  | x :: xs => if headOf x = some h then some x else repOf h xs
/-- tuples whose first texts tell their form -/
def mixOk (xs : List IV) : Bool := xs.all fun x => match headOf x with
  | some h => (match repOf h xs with | some r => sameF x r | none => false)
  | none => false
def filled : IV → Bool
  | .tup (_ :: _) => true
  | _ => false
def isTupV : IV → Bool
  | .tup _ => true
  | _ => false
/-- all of one form -/
def oneOk : List IV → Bool
  | [] => true
  | x :: xs => (x :: xs).all (fun y => sameF y x) && ((x :: xs).all filled || (x :: xs).all fun y => !isTupV y)
def srtOk (xs : List IV) : Bool := (oneOk xs || mixOk xs) && IV.plains xs && decide (IV.deps xs ≤ 60)
def sortIV (xs : List IV) : List IV := xs.mergeSort fun a b => !dLt b a
def sortM (x : TV) (st : Store) : Res TV := match itemsL st x with
  | some xs => if srtOk xs then .ok (.l (sortIV xs)) st else .bad
  | none => .bad
/-- < of two tuples that tell each other apart in time -/
def mixTs : List IV → List IV → Bool
  | x :: xs, y :: ys => sameF x y && (!pyEq x y || mixTs xs ys)
  | _, _ => true
def pairsOf : List (IV × IV) → Option (List (Int × Int))
  | [] => some []
  | (.tup [.int a, .int b], _) :: r => (pairsOf r).map ((a, b) :: ·)
  | _ => none
def pairLe (x y : Int × Int) : Bool := decide (x.1 < y.1) || (decide (x.1 = y.1) && decide (x.2 ≤ y.2))
def pairIV (p : Int × Int) : IV := .tup [.int p.1, .int p.2]
def dsortM (x : TV) (st : Store) : Res TV := match dicAt st x with
  | some (_, kvs) => (match pairsOf kvs with | some ps => .ok (.l ((ps.mergeSort pairLe).map pairIV)) st | none => .bad)
  | none => .bad
def inM (x y : TV) (st : Store) : Option Bool :=
  match x, y with
  | .v (.str a), .v (.str b) => some (!(Builtin.Str.occurrences b a 0 b.length 1).isEmpty)
  | .v x, y => if x.plain && decide (x.dep ≤ 60) then
      match itemsLT st y with
      | some ys => if IV.plains ys then some (anyEq x ys) else none
      | none => none
    else none
  | _, _ => none
def asInts : List IV → Option (List Int)
  | [] => some []
  | .int b :: r => (asInts r).map (b :: ·)
  | _ => none
/-- < of whole numbers, and of tuples of them -/
def ltM (x y : TV) (st : Store) : Res TV := match x, y with
  | .v (.int i), .v (.int j) => .ok (.v (.bl (decide (i < j)))) st
  | .v (.tup xs), .v (.tup ys) => (match asInts xs, asInts ys with
    | some ns, some ms => .ok (.v (.bl (HT.lexLt ns ms))) st
    | _, _ => if mixTs xs ys && IV.plains xs && IV.plains ys && decide (IV.deps xs ≤ 60) then .ok (.v (.bl (dLt (.tup xs) (.tup ys)))) st else .bad)
  | _, _ => .bad
def cmpM : COp → TV → TV → Store → Res TV
  | .eq, x, y, st => match eqM x y st with | some b => .ok (.v (.bl b)) st | none => .bad
  | .ne, x, y, st => match eqM x y st with | some b => .ok (.v (.bl (!b))) st | none => .bad
  | .lt, x, y, st => ltM x y st
  | .le, x, y, st => ordM (fun i j => decide (i ≤ j)) x y st
  | .gt, x, y, st => ordM (fun i j => decide (j < i)) x y st
  | .ge, x, y, st => ordM (fun i j => decide (j ≤ i)) x y st
  | .inn, x, y, st => match inM x y st with | some b => .ok (.v (.bl b)) st | none => .bad
  | .nin, x, y, st => match inM x y st with | some b => .ok (.v (.bl (!b))) st | none => .bad

/-- the place of an index, from the end if below 0 -/
def atN (n : Nat) (i : Int) : Option Nat := if 0 ≤ i then (if i < n then some i.toNat else none) else if -(n : Int) ≤ i then some (i + n).toNat else none
def idxM (x y : TV) (st : Store) : Res TV :=
  match x, y with
  | .v (.str s), .v (.int i) => if s.length ≤ lineN then (match atN s.length i with
      | some k => (match s.cps[k]? with | some c => .ok (.v (.str ⟨#[c]⟩)) st | none => .bad)
      | none => .bad) else .bad
  | x, .v y => (match itemsLT st x, y with
    | some xs, .int i => (match atN xs.length i with
      | some k => (match xs[k]? with | some z => .ok (.v z) st | none => .bad)
      | none => .bad)
    | _, _ => .bad)
  | _, _ => .bad
/-- a slice's bound: the library's -/
abbrev sIxN : Nat → Nat → Option Int → Nat := HT.sIx
def cut {α : Type} (xs : List α) (lo hi : Option Int) : List α := (xs.drop (sIxN xs.length 0 lo)).take (sIxN xs.length xs.length hi - sIxN xs.length 0 lo)
def slM (x : TV) (a b : Option Int) (st : Store) : Res TV := match x with
  | .v (.tup xs) => .ok (.v (.tup (cut xs a b))) st
  | .v (.str s) => if s.length ≤ lineN then .ok (.v (.str ⟨(cut s.cps.toList a b).toArray⟩)) st else .bad
  | x => match itemsL st x with
    | some xs => .ok (.l (cut xs a b)) st
    | none => .bad
def isNob : E → Bool
  | .nob => true
  | _ => false
def asInt : TV → Store → Res (Option Int)
  | .v (.int i), st => .ok (some i) st
  | _, _ => .bad

inductive Tn where | none | bool | int | str | tuple | list | dict
def tnOf (st : Store) : TV → Option Tn
  | .v .non => some .none
  | .v (.bl _) => some .bool
  | .v (.int _) => some .int
  | .v (.str _) => some .str
  | .v (.tup _) => some .tuple
  | .v (.frz _) => some .list
  | .l _ => some .list
  | .v (.ref r) => match st[r]? with
    | some (.lst _) => some .list
    | _ => Option.none
  | _ => Option.none
def tnIs : Tn → Ty → Bool
  | .bool, .bool => true
  | .bool, .int => true
  | .int, .int => true
  | .str, .str => true
  | .tuple, .tuple => true
  | .list, .list => true
  | _, _ => false
def isTys (st : Store) (x : TV) (ts : List Ty) : Option Bool := (tnOf st x).map fun n => ts.any (tnIs n)

def asBools : List IV → Option (List Bool)
  | [] => some []
  | .bl b :: r => (asBools r).map (b :: ·)
  | _ => none
def lenOf (st : Store) : TV → Option Nat
  | .v (.str s) => if s.length ≤ lineN then some s.length else none
  | x => match itemsLT st x with
    | some xs => some xs.length
    | none => none
/-- the greatest, the least of whole numbers -/
def maxI : List Int → Option Int
  | [] => none
  | x :: xs => match maxI xs with
    | none => some x
    | some m => some (if m < x then x else m)
def minI : List Int → Option Int
  | [] => none
  | x :: xs => match minI xs with
    | none => some x
    | some m => some (if x < m then x else m)
def biM : Bi → List TV → Store → Res TV
  | .len, [x], st => match lenOf st x with | some n => .ok (.v (.int n)) st | none => .bad
  | .all, [x], st => match (itemsL st x).bind asBools with | some bs => .ok (.v (.bl (bs.all id))) st | none => .bad
  | .any, [x], st => match (itemsL st x).bind asBools with | some bs => .ok (.v (.bl (bs.any id))) st | none => .bad
  | .sum, [x], st => match (itemsL st x).bind asInts with | some ns => .ok (.v (.int ns.sum)) st | none => .bad
  | .int, [.v (.int i)], st => .ok (.v (.int i)) st
  | .int, [.v (.bl b)], st => .ok (.v (.int (if b then 1 else 0))) st
  | .tuple, [.v (.tup xs)], st => .ok (.v (.tup xs)) st
  | .tuple, [x], st => match itemsL st x with | some xs => .ok (.v (.tup xs)) st | none => .bad
  | .list, [x], st => match itemsLT st x with | some xs => .ok (.l xs) st | none => .bad
  | .max, [x], st => match ((itemsL st x).bind asInts).bind maxI with | some m => .ok (.v (.int m)) st | none => .bad
  | .min, [x], st => match ((itemsL st x).bind asInts).bind minI with | some m => .ok (.v (.int m)) st | none => .bad
  | .max2, [.v (.int i), .v (.int j)], st => .ok (.v (.int (if j > i then j else i))) st
  | .min2, [.v (.int i), .v (.int j)], st => .ok (.v (.int (if j < i then j else i))) st
  | _, _, _ => .bad
/-- the first place of an equal one -/
def findEq (x : IV) : List IV → Option Nat
  | [] => none
  | y :: ys => if pyEq y x then some 0 else (findEq x ys).map (· + 1)
def bmM : Bm → TV → List TV → Store → Res TV
  | .append, .v (.ref r), [x], st => match st[r]? with
    | some (.lst xs) => if xs.length < lineN then (mat x st).bind fun y st => .ok (.v .non) (st.set r (.lst (xs ++ [y]))) else .bad
    | _ => .bad
  | .extend, .v (.ref r), [x], st => match st[r]?, itemsM st x with
    | some (.lst xs), some ys => if xs.length + ys.length ≤ lineN then .ok (.v .non) (st.set r (.lst (xs ++ ys))) else .bad
    | _, _ => .bad
  | .index, x, [.v y], st => if y.plain && decide (y.dep ≤ 60) then (match itemsLT st x with
      | some xs => if IV.plains xs then (match findEq y xs with | some k => .ok (.v (.int k)) st | none => .bad) else .bad
      | none => .bad) else .bad
  | _, _, _, _ => .bad

/-- a call's garbage goes where nothing old holds it -/
def gcV (n : Nat) (st : Store) : TV → Option TV
  | .v (.ref r) => if r < n then some (.v (.ref r)) else (match st[r]? with
    | some (.lst xs) => if IV.lows n xs then some (.l xs) else none
    | _ => none)
  | .v x => if x.low n then some (.v x) else none
  | .l xs => if IV.lows n xs then some (.l xs) else none
  | .s xs => if IV.lows n xs then some (.s xs) else none
  | .d kvs => if lowK n kvs then some (.d kvs) else none
def gc (st0 : Store) : Res TV → Res TV
  | .ok x st => if okPre st0.length st0 st then
      (match gcV st0.length st x with
      | some y => .ok y (st.take st0.length)
      | none => .ok x st) else .ok x st
  | .exc e st => if okPre st0.length st0 st && lowO st0.length e.val then .exc e (st.take st0.length) else .exc e st
  | .bad => .bad

def isLst (x : TV) (st : Store) : Bool := (itemsM st x).isSome
def IV.flat : IV → Bool
  | .int _ => true
  | .str _ => true
  | .bl _ => true
  | _ => false
def asStrs : List IV → Option (List Str)
  | [] => some []
  | .str b :: r => (asStrs r).map (b :: ·)
  | _ => none
def ixSeq : Bool → Store → TV → Bool
  | true, _, .v (.tup xs) => (asStrs xs).isSome
  | false, st, x => (itemsM st x).isSome
  | _, _, _ => false
def ixM (tup : Bool) (x y : TV) (st : Store) : Res TV := match tup, x, y with
  | true, .v (.tup xs), .v (.str k) => (match findEq (.str k) xs with | some j => .ok (.v (.int j)) st | none => .bad)
  | false, x, .v y => if y.flat then (match itemsM st x with
      | some xs => if xs.all IV.flat then (match findEq y xs with | some j => .ok (.v (.int j)) st | none => .bad) else .bad
      | none => .bad) else .bad
  | _, _, _ => .bad
def rowN : IV → Option (List Str)
  | .tup ys => asStrs ys
  | _ => none
def rowT (y : IV) (i : TV) : Option (List Str) := match y, i with
  | .tup xs, .v (.int i) => (match atN xs.length i with
    | some k => (match xs[k]? with | some z => rowN z | none => none)
    | none => none)
  | _, _ => none
def strIx (ys : List Str) (k : TV) (st : Store) : Res TV := match k with
  | .v (.str z) => (match ys.findIdx? (fun y => decide (y = z)) with | some j => .ok (.v (.int j)) st | none => .bad)
  | _ => .bad
def cntM (x y : TV) (st : Store) : Res TV := match y with
  | .v (.bl b) => (match (itemsM st x).bind asBools with
    | some bs => .ok (.v (.int (bs.count b))) st
    | none => .bad)
  | _ => .bad
def boolOf : TV → Option Bool
  | .v (.bl b) => some b
  | _ => none
abbrev Orc := FnDef → List IV → Store → Res TV
def callWith (G : Orc) (fd : FnDef) (vs : List TV) (st : Store) : Res TV :=
  gc st ((mats vs st).bind fun xs st => G fd xs st)
def wipeN (σ : List (Option IV)) : List Nat → List (Option IV)
  | [] => σ
  | v :: vs => (wipeN σ vs).set v none

/-- what a for walks: the items; the list that must stay as it is meanwhile -/
structure Sq where
  xs : List IV
  gd : Option Nat
def Sq.stays (q : Sq) (st : Store) : Bool := match q.gd with
  | none => true
  | some r => match st[r]? with
    | some (.lst ys) => IV.eqbs ys q.xs
    | _ => false
def sqOf (st : Store) : TV → Option Sq
  | .v (.ref r) => match st[r]? with
    | some (.lst xs) => some ⟨xs, some r⟩
    | _ => none
  | .v (.frz ns) => some ⟨ns.map .int, none⟩
  | .v (.tup xs) => some ⟨xs, none⟩
  | .l xs => some ⟨xs, none⟩
  | _ => none
def rngL (lo : Int) (n : Nat) : List IV := (List.range n).map fun (k : Nat) => IV.int (lo + (k : Int))
def rngC (lo c : Int) (n : Nat) : List IV := (List.range n).map fun (k : Nat) => IV.int (lo + (k : Int) * c)
def big : Int := 4611686018427387904
def inB (i : Int) : Bool := decide (-big ≤ i) && decide (i < big)

def Res.quiet {α : Type} : Res α → Res α
  | .ok a st => .ok a st
  | _ => .bad
/-- a comprehension's turns -/
def compF (q : Sq) (env : Env) (tgt : Env → IV → Store → Res Env) (ifs : Env → Store → Res Bool) (elt : Env → Store → Res TV) : List IV → List IV → Store → Res TV
  | [], acc, st => if q.stays st then .ok (.l acc) st else .bad
  | x :: xs, acc, st => if q.stays st then
      (tgt env x st).quiet.bind fun env1 st => (ifs env1 st).quiet.bind fun b st =>
        if b then (elt env1 st).quiet.bind fun y st => (mat y st).bind fun y st => if acc.length < lineN then compF q env tgt ifs elt xs (acc ++ [y]) st else .bad
        else compF q env tgt ifs elt xs acc st
    else .bad
/-- is it that bool -/
def isBv (b : Bool) : IV → Bool
  | .bl c => decide (c = b)
  | _ => false
/-- a comprehension's turns within another's: gd must hold all the while -/
def compG (gd : Store → Bool) (env : Env) (tgt : Env → IV → Store → Res Env) (ifs : Env → Store → Res Bool) (elt : Env → Store → Res TV) : List IV → List IV → Store → Res TV
  | [], acc, st => if gd st then .ok (.l acc) st else .bad
  | x :: xs, acc, st => if gd st then
      (tgt env x st).quiet.bind fun env1 st => (ifs env1 st).quiet.bind fun b st =>
        if b then (elt env1 st).quiet.bind fun y st => (mat y st).bind fun y st => if acc.length < lineN then compG gd env tgt ifs elt xs (acc ++ [y]) st else .bad
        else compG gd env tgt ifs elt xs acc st
    else .bad
/-- the first clause's turns -/
def compF2 (q : Sq) (env : Env) (tgt : Env → IV → Store → Res Env) (ifs : Env → Store → Res Bool) (inner : Env → List IV → Store → Res TV) : List IV → List IV → Store → Res TV
  | [], acc, st => if q.stays st then .ok (.l acc) st else .bad
  | x :: xs, acc, st => if q.stays st then
      (tgt env x st).quiet.bind fun env1 st => (ifs env1 st).quiet.bind fun b st =>
        if b then (inner env1 acc st).quiet.bind fun y st => match y with
          | .l acc => compF2 q env tgt ifs inner xs acc st
          | _ => .bad
        else compF2 q env tgt ifs inner xs acc st
    else .bad
def RS.next (r : RS) (f : Env → Store → RS) : RS := match r with
  | .nx env st => f env st
  | r => r
/-- a for's turns -/
def forF (q : Sq) (tgt : Env → IV → Store → RS) (body : Env → Store → RS) : List IV → Env → Store → RS
  | [], env, st => if q.stays st then .nx env st else .bad
  | x :: xs, env, st => if q.stays st then
      match (tgt env x st).next body with
      | .nx env st => forF q tgt body xs env st
      | .ct env st => forF q tgt body xs env st
      | .bk env st => .nx env st
      | r => r
    else .bad
def whlF (t : Env → Store → Res Bool) (body : Env → Store → RS) : Nat → Env → Store → RS
  | 0, _, _ => .bad
  | n + 1, env, st => match t env st with
    | .ok true st => (match body env st with
      | .nx env st => whlF t body n env st
      | .ct env st => whlF t body n env st
      | .bk env st => .nx env st
      | r => r)
    | .ok false st => .nx env st
    | .exc e st => .exc e env st
    | .bad => .bad
/-- an expression's outcome within a statement -/
def Res.run {α : Type} (r : Res α) (env : Env) (f : α → Store → RS) : RS := match r with
  | .ok a st => f a st
  | .exc e st => .exc e env st
  | .bad => .bad

def setIdx (x y : TV) (z : IV) (st : Store) : Option Store := match x, y with
  | .v (.ref r), .v (.int i) => match st[r]? with
    | some (.lst xs) => (atN xs.length i).map fun k => st.set r (.lst (xs.set k z))
    | _ => none
  | _, _ => none
def setAttr (x : TV) (c j : Nat) (z : IV) (st : Store) : Option Store := match x with
  | .v (.ref r) => match st[r]? with
    | some (.ins d fs) => if c = d ∧ j < fs.length then some (st.set r (.ins c (fs.set j (some z)))) else none
    | _ => none
  | _ => none
def getAttr (x : TV) (c j : Nat) (st : Store) : Option IV := match x with
  | .v (.ref r) => match st[r]? with
    | some (.ins d fs) => if c = d then (match fs[j]? with | some (some z) => some z | _ => none) else none
    | _ => none
  | _ => none
def isIns (x : TV) (c : Nat) (st : Store) : Bool := match x with
  | .v (.ref r) => match st[r]? with
    | some (.ins d _) => decide (c = d)
    | _ => false
  | _ => false
def setSl (env : Env) (i : Nat) (x : IV) : Option Env := if i < env.sl.length then some { env with sl := env.sl.set i (some x), lm := env.lm.filter fun p => p.1 != i } else none
/-- name op= .. of whole numbers -/
def augI : BOp → Int → Int → Option Int
  | .add, a, b => some (a + b)
  | .sub, a, b => some (a - b)
  | _, _, _ => none
/-- a tuple's (or a list's) items for a target of n names -/
def unpack (st : Store) (x : TV) (n : Nat) : Option (List IV) := match itemsLT st x with
  | some xs => if xs.length = n then some xs else none
  | none => none

/-- what captured slots hold -/
def capsOf (env : Env) : List Nat → Option (List IV)
  | [] => some []
  | j :: js => match env.sl[j]? with
    | some (some x) => (capsOf env js).map (x :: ·)
    | _ => none
def actM (G : Orc) (me : FnDef) (env : Env) (st : Store) : Res TV := match me.ws with
  | [(_, fd, js)] => (match capsOf env js with
    | some xs => gc st (G fd (List.replicate (fd.np - xs.length) (.int 0) ++ xs) st)
    | none => .bad)
  | _ => .bad
def wrun (G : Orc) (me : FnDef) (k : Nat) (env : Env) (st : Store) : Res TV := match me.ws.lookup k with
  | some (fd, js) => (match capsOf env js with
    | some xs => gc st (G fd xs st)
    | none => .bad)
  | none => .bad
/-- a display's keys: constants -/
def constsOf : List E → Option (List IV)
  | [] => some []
  | .c x :: r => (constsOf r).map (x :: ·)
  | _ => none
/-- a key is laid -/
def evK (r : Res (List TV)) : Res (List IV) := r.bind fun vs st => (mats vs st).bind fun xs st => if xs.length ≤ lineN && xs.all IV.key1 then .ok xs st else .bad
mutual
def evE (G : Orc) (me : FnDef) : E → Env → Store → Res TV
  | .v i, env, st => match env.sl[i]? with
    | some (some x) => .ok (.v x) st
    | _ => .bad
  | .c x, _, st => .ok (.v x) st
  | .g _ x, _, st => .ok (.v x) st
  | .nob, _, _ => .bad
  | .tup es, env, st => (evEs G me es env st).bind fun vs st => (mats vs st).bind fun xs st => if xs.length ≤ lineN then .ok (.v (.tup xs)) st else .bad
  | .lst es, env, st => (evEs G me es env st).bind fun vs st => (mats vs st).bind fun xs st => if xs.length ≤ lineN then .ok (.l xs) st else .bad
  | .dic _ _, _, _ => .bad
  | .bin op a b, env, st => (evE G me a env st).bind fun x st => (evE G me b env st).bind fun y st => binM op x y st
  | .neg a, env, st => (evE G me a env st).bind fun x st => match x with | .v (.int i) => .ok (.v (.int (-i))) st | _ => .bad
  | .cmp op a b, env, st => (evE G me a env st).bind fun x st => (evE G me b env st).bind fun y st => cmpM op x y st
  | .chain o1 o2 a b c, env, st => (evE G me a env st).bind fun x st => (evE G me b env st).bind fun y st => (cmpM o1 x y st).bind fun k st =>
      match boolOf k with
      | some true => (evE G me c env st).bind fun z st => cmpM o2 y z st
      | some false => .ok (.v (.bl false)) st
      | none => .bad
  | .isN a, env, st => (evE G me a env st).bind fun x st => match x with | .v .non => .ok (.v (.bl true)) st | .v _ => .ok (.v (.bl false)) st | _ => .bad
  | .notN a, env, st => (evE G me a env st).bind fun x st => match x with | .v .non => .ok (.v (.bl false)) st | .v _ => .ok (.v (.bl true)) st | _ => .bad
  | .isB pos b a, env, st => (evE G me a env st).bind fun x st => match x with | .v y => .ok (.v (.bl (if pos then isBv b y else !isBv b y))) st | _ => .bad
  | .chain3 o1 o2 o3 a b c d, env, st => (evE G me a env st).bind fun x st => (evE G me b env st).bind fun y st => (cmpM o1 x y st).bind fun k st =>
      match boolOf k with
      | some true => (evE G me c env st).bind fun z st => (cmpM o2 y z st).bind fun k st =>
        (match boolOf k with
        | some true => (evE G me d env st).bind fun u st => cmpM o3 z u st
        | some false => .ok (.v (.bl false)) st
        | none => .bad)
      | some false => .ok (.v (.bl false)) st
      | none => .bad
  | .ixof tup a e, env, st => (evE G me a env st).bind fun x st => if ixSeq tup st x then (evE G me e env st).bind fun y st => ixM tup x y st else .bad
  | .cntB a e, env, st => (evE G me a env st).bind fun x st => if isLst x st then (evE G me e env st).bind fun y st => cntM x y st else .bad
  | .dnew, _, st => .ok (.v (.ref st.length)) (st ++ [.dic []])
  | .dget a ks, env, st => (evE G me a env st).bind fun x st => (evK (evEs G me ks env st)).bind fun k st => dgetM k x st
  | .dgetD a ks d, env, st => (evE G me a env st).bind fun x st => if isDic st x then (evK (evEs G me ks env st)).bind fun k st => (evE G me d env st).bind fun y st => dgetDM k x y st else .bad
  | .din pos ks a, env, st => (evK (evEs G me ks env st)).bind fun k st => (evE G me a env st).bind fun x st => dinM pos k x st
  | .dsort a, env, st => (evE G me a env st).bind fun x st => dsortM x st
  | .kget a k, env, st => (evE G me a env st).bind fun x st => (asKey (evE G me k env st)).bind fun k st => kgetM x k st
  | .kgetD a k d, env, st => (evE G me a env st).bind fun x st => if isDict st x then (asKey (evE G me k env st)).bind fun k st => (evE G me d env st).bind fun y st => kgetDM x k y st else .bad
  | .kin pos k a, env, st => (asKey (evE G me k env st)).bind fun k st => (evE G me a env st).bind fun x st => kinM pos x k st
  | .knew, _, st => .ok (.v (.ref st.length)) (st ++ [.dk []])
  | .kdisp ks vs, env, st => match constsOf ks with
      | some xs => if xs.all IV.key1 && decide (xs.length ≤ 15) then (evEs G me vs env st).bind fun ws st => (mats ws st).bind fun ys st => .ok (.v (.ref st.length)) (st ++ [.dk (kDisp xs ys [])]) else .bad
      | none => .bad
  | .dmk a, env, st => (evE G me a env st).bind fun x st => dmkM x st
  | .dlist a, env, st => (evE G me a env st).bind fun x st => dlistM x st
  | .sortT a, env, st => (evE G me a env st).bind fun x st => sortM x st
  | .ixN _ y e, env, st => match rowN y with | some ys => (evE G me e env st).bind fun k st => strIx ys k st | none => .bad
  | .ixT _ y i e, env, st => (evE G me i env st).bind fun j st => match rowT y j with | some ys => (evE G me e env st).bind fun k st => strIx ys k st | none => .bad
  | .and_ a es, env, st => (evE G me a env st).bind fun x st => evAnd G me x es env st
  | .or_ a es, env, st => (evE G me a env st).bind fun x st => evOr G me x es env st
  | .not_ a, env, st => (evE G me a env st).bind fun x st => match boolOf x with | some b => .ok (.v (.bl (!b))) st | none => .bad
  | .ite t a b, env, st => (evE G me t env st).bind fun x st => match boolOf x with
      | some true => evE G me a env st
      | some false => evE G me b env st
      | none => .bad
  | .idx a b, env, st => (evE G me a env st).bind fun x st => (evE G me b env st).bind fun y st => idxM x y st
  | .sl a lo hi, env, st => (evE G me a env st).bind fun x st =>
      (if isNob lo then .ok none st else (evE G me lo env st).bind fun y st => asInt y st).bind fun l st =>
      (if isNob hi then .ok none st else (evE G me hi env st).bind fun y st => asInt y st).bind fun h st => slM x l h st
  | .call fd es, env, st => (evEs G me es env st).bind fun vs st => callWith G fd vs st
  | .self es, env, st => (evEs G me es env st).bind fun vs st => callWith G me vs st
  | .bi f es, env, st => (evEs G me es env st).bind fun vs st => biM f vs st
  | .isI a ts, env, st => (evE G me a env st).bind fun x st => match isTys st x ts with | some b => .ok (.v (.bl b)) st | none => .bad
  | .bm f a es, env, st => (evE G me a env st).bind fun x st => if isLst x st then (evEs G me es env st).bind fun vs st => bmM f x vs st else .bad
  | .attr a c j _, env, st => (evE G me a env st).bind fun x st => match getAttr x c j st with | some z => .ok (.v z) st | none => .bad
  | .meth a c fd es, env, st => (evE G me a env st).bind fun x st => if isIns x c st then (evEs G me es env st).bind fun vs st => callWith G fd (x :: vs) st else .bad
  | .make c _ nf fd es, env, st => (evEs G me es env st).bind fun vs st => gc st ((mats vs st).bind fun xs st =>
      (G fd (.ref st.length :: xs) (st ++ [.ins c (List.replicate nf none)])).bind fun r st' => match r with
        | .v .non => .ok (.v (.ref st.length)) st'
        | _ => .bad)
  | .comp own pt it ifs e, env, st => (evIt G me it env st).bind fun q st =>
      compF q { env with sl := wipeN env.sl own, lm := [] } (fun env x st => pat G me pt (.v x) env st) (fun env st => evIfs G me ifs env st) (fun env st => evE G me e env st) q.xs [] st
  | .comp2 own own1 pt it ifs pt1 it1 ifs1 e, env, st => (evIt G me it env st).bind fun q st =>
      compF2 q { env with sl := wipeN env.sl own, lm := [] } (fun env x st => pat G me pt (.v x) env st) (fun env st => evIfs G me ifs env st)
        (fun env acc st => (evIt G me it1 env st).bind fun q1 st => compG (fun st => q1.stays st && q.stays st) { env with sl := wipeN env.sl own1, lm := [] } (fun env x st => pat G me pt1 (.v x) env st) (fun env st => evIfs G me ifs1 env st) (fun env st => evE G me e env st) q1.xs acc st)
        q.xs [] st
  | .hIs c _, env, st => match env.hx with
      | some e => .ok (.v (.bl (decide (e.cls = c)))) st
      | none => .bad
  | .hFld c _, env, st => match env.hx with
      | some e => if e.cls = c then (match e.val with | some x => .ok (.v x) st | none => .bad) else .bad
      | none => .bad
  | .dead, _, _ => .bad
  | .act, env, st => actM G me env st
  | .wlit k, env, st => wrun G me k env st
  | .wat i e, env, st => match env.lm.lookup i with
      | some ks => (evE G me e env st).bind fun y st => (match y with
        | .v (.int j) => (match atN ks.length j with
          | some p => (match ks[p]? with | some k => wrun G me k env st | none => .bad)
          | none => .bad)
        | _ => .bad)
      | none => .bad
def evEs (G : Orc) (me : FnDef) : List E → Env → Store → Res (List TV)
  | [], _, st => .ok [] st
  | e :: es, env, st => (evE G me e env st).bind fun x st => (evEs G me es env st).bind fun xs st => .ok (x :: xs) st
def evAnd (G : Orc) (me : FnDef) (x : TV) : List E → Env → Store → Res TV
  | [], _, st => .ok x st
  | e :: es, env, st => match boolOf x with
      | some true => (evE G me e env st).bind fun y st => evAnd G me y es env st
      | some false => .ok (.v (.bl false)) st
      | none => .bad
def evOr (G : Orc) (me : FnDef) (x : TV) : List E → Env → Store → Res TV
  | [], _, st => .ok x st
  | e :: es, env, st => match boolOf x with
      | some false => (evE G me e env st).bind fun y st => evOr G me y es env st
      | some true => .ok (.v (.bl true)) st
      | none => .bad
def evIfs (G : Orc) (me : FnDef) : List E → Env → Store → Res Bool
  | [], _, st => .ok true st
  | e :: es, env, st => (evE G me e env st).bind fun x st => match boolOf x with
      | some true => evIfs G me es env st
      | some false => .ok false st
      | none => .bad
def evIt (G : Orc) (me : FnDef) : It → Env → Store → Res Sq
  | .e e, env, st => (evE G me e env st).bind fun x st => match sqOf st x with | some q => .ok q st | none => .bad
  | .rng1 a, env, st => (evE G me a env st).bind fun x st => match x with
      | .v (.int n) => if inB n then .ok ⟨rngL 0 n.toNat, none⟩ st else .bad
      | _ => .bad
  | .rng2 a b, env, st => (evE G me a env st).bind fun x st => (evE G me b env st).bind fun y st => match x, y with
      | .v (.int lo), .v (.int hi) => if inB lo && inB hi then .ok ⟨rngL lo (hi - lo).toNat, none⟩ st else .bad
      | _, _ => .bad
  | .rng3 a b c, env, st => (evE G me a env st).bind fun x st => (evE G me b env st).bind fun y st => (evE G me c env st).bind fun z st => match x, y, z with
      | .v (.int lo), .v (.int hi), .v (.int k) => if inB lo && inB hi && decide (0 < k ∧ k < 1000000) then .ok ⟨rngC lo k ((hi - lo + k - 1) / k).toNat, none⟩ st else .bad
      | _, _, _ => .bad
/-- a value goes to a target -/
def pat (G : Orc) (me : FnDef) : Pt → TV → Env → Store → Res Env
  | .v i, x, env, st => (mat x st).bind fun y st => match setSl env i y with | some env => .ok env st | none => .bad
  | .tup ps, x, env, st => match unpack st x ps.length with
      | some xs => pats G me ps xs env st
      | none => .bad
  | .idx a b, x, env, st => (mat x st).bind fun z st => (evE G me a env st).bind fun u st => (evE G me b env st).bind fun w st => match setIdx u w z st with
      | some st => .ok env st
      | none => .bad
  | .attr a c j _, x, env, st => (mat x st).bind fun z st => (evE G me a env st).bind fun u st => match setAttr u c j z st with
      | some st => .ok env st
      | none => .bad
def pats (G : Orc) (me : FnDef) : List Pt → List IV → Env → Store → Res Env
  | [], [], env, st => .ok env st
  | p :: ps, x :: xs, env, st => (pat G me p (.v x) env st).bind fun env st => pats G me ps xs env st
  | _, _, _, _ => .bad
end

mutual
def evS (G : Orc) (me : FnDef) (fu : Nat) : S → Env → Store → RS
  | .asg p e, env, st => (evE G me e env st).run env fun x st => (pat G me p x env st).quiet.run env fun env st => .nx env st
  | .dput a ks e, env, st => (evE G me e env st).run env fun y st => (mat y st).run env fun z st => (evE G me a env st).run env fun x st => (evK (evEs G me ks env st)).run env fun k st => match dicAt st x with
      | some (r, kvs) => if kvs.length < lineN then .nx env (st.set r (.dic (kPut k z kvs))) else .bad
      | none => .bad
  | .kput a k e, env, st => (evE G me e env st).run env fun y st => (mat y st).run env fun z st => (evE G me a env st).run env fun x st => (asKey (evE G me k env st)).run env fun k st => match kputO x k z st with
      | some st => .nx env st
      | none => .bad
  | .aug i op e, env, st => match env.sl[i]? with
      | some (some (.int a)) => (evE G me e env st).run env fun y st => match y with
        | .v (.int b) => (match augI op a b with
          | some c => (match setSl env i (.int c) with | some env => .nx env st | none => .bad)
          | none => .bad)
        | _ => .bad
      | _ => .bad
  | .augA a c j _ op e, env, st => (evE G me a env st).run env fun u st => match getAttr u c j st with
      | some x => (evE G me e env st).run env fun y st => (binM op (.v x) y st).run env fun z st => (mat z st).run env fun z st => (match setAttr u c j z st with | some st => .nx env st | none => .bad)
      | none => .bad
  | .ex e, env, st => (evE G me e env st).run env fun _ st => .nx env st
  | .ret e, env, st => (evE G me e env st).run env fun x st => .rt x st
  | .ret0, _, st => .rt (.v .non) st
  | .pass, env, st => .nx env st
  | .brk, env, st => .bk env st
  | .cont, env, st => .ct env st
  | .ite t a b, env, st => (evE G me t env st).run env fun x st => match boolOf x with
      | some true => evSs G me fu a env st
      | some false => evSs G me fu b env st
      | none => .bad
  | .whl t b, env, st => whlF (fun env st => (evE G me t env st).bind fun x st => match boolOf x with | some k => .ok k st | none => .bad) (fun env st => evSs G me fu b env st) fu env st
  | .for_ p it b, env, st => (evIt G me it env st).run env fun q st =>
      forF q (fun env x st => (pat G me p (.v x) env st).quiet.run env fun env st => .nx env st) (fun env st => evSs G me fu b env st) q.xs env st
  | .raise c _ es, env, st => (evEs G me es env st).run env fun vs st => match vs with
      | [] => .exc ⟨c, none⟩ env st
      | [.v x] => if x.plain then .exc ⟨c, some x⟩ env st else .bad
      | _ => .bad
  | .try_ b c _ slot h, env, st => match evSs G me fu b env st with
      | .exc e env1 st1 => if c = e.cls ∨ c = 0 then if slot < env1.sl.length then
          (match evSs G me fu h { sl := env1.sl.set slot none, hx := some e } st1 with
          | .rt v st2 => .rt v st2
          | _ => .bad) else .bad
        else .exc e env1 st1
      | r => r
  | .tryO b c _ h, env, st => match evSs G me fu b env st with
      | .exc e env1 st1 => if c = e.cls ∨ c = 0 then
          (match evSs G me fu h { sl := env1.sl, hx := some e } st1 with
          | .rt v st2 => .rt v st2
          | _ => .bad)
        else .exc e env1 st1
      | r => r
  | .dead, _, _ => .bad
  | .lams i app ks, env, st => if i < env.sl.length then
      (match app, env.lm.lookup i with
      | false, _ => .nx { env with sl := env.sl.set i none, lm := (i, ks) :: env.lm.filter fun p => p.1 != i } st
      | true, some ks0 => if ks0.length + ks.length ≤ 100 then .nx { env with sl := env.sl.set i none, lm := (i, ks0 ++ ks) :: env.lm.filter fun p => p.1 != i } st else .bad
      | true, none => .bad)
      else .bad
def evSs (G : Orc) (me : FnDef) (fu : Nat) : List S → Env → Store → RS
  | [], env, st => .nx env st
  | s :: ss, env, st => (evS G me fu s env st).next fun env st => evSs G me fu ss env st
end
def exitF : RS → Res TV
  | .nx _ st => .ok (.v .non) st
  | .rt v st => .ok v st
  | .exc e _ st => .exc e st
  | _ => .bad
def startE (fd : FnDef) (args : List IV) : Env := { sl := args.map some ++ List.replicate (fd.N.length - args.length) none }
def callM (fu : Nat) : Nat → Orc
  | 0, _, _, _ => .bad
  | n + 1, fd, args, st => if args.length = fd.np then exitF (evSs (callM fu n) fd fu fd.body (startE fd args) st) else .bad
end MP

set_option linter.all false
set_option autoImplicit false
set_option Elab.async false
namespace MP
open PySem
/-! ### two texts are the same -/
mutual
def eqE : Expr → Expr → Bool
  | .BoolOp a0 a1 a2, .BoolOp b0 b1 b2 => decide (a0 = b0) && eqEs a1 b1 && decide (a2 = b2)
  | .BinOp a0 a1 a2 a3, .BinOp b0 b1 b2 b3 => eqE a0 b0 && decide (a1 = b1) && eqE a2 b2 && decide (a3 = b3)
  | .UnaryOp a0 a1 a2, .UnaryOp b0 b1 b2 => decide (a0 = b0) && eqE a1 b1 && decide (a2 = b2)
  | .IfExp a0 a1 a2 a3, .IfExp b0 b1 b2 b3 => eqE a0 b0 && eqE a1 b1 && eqE a2 b2 && decide (a3 = b3)
  | .Compare a0 a1 a2 a3, .Compare b0 b1 b2 b3 => eqE a0 b0 && decide (a1 = b1) && eqEs a2 b2 && decide (a3 = b3)
  | .Constant a0 a1 a2, .Constant b0 b1 b2 => decide (a0 = b0) && decide (a1 = b1) && decide (a2 = b2)
  | .Attribute a0 a1 a2, .Attribute b0 b1 b2 => eqE a0 b0 && decide (a1 = b1) && decide (a2 = b2)
  | .Subscript a0 a1 a2, .Subscript b0 b1 b2 => eqE a0 b0 && eqE a1 b1 && decide (a2 = b2)
  | .Name a0 a1, .Name b0 b1 => decide (a0 = b0) && decide (a1 = b1)
  | .List a0 a1, .List b0 b1 => eqEs a0 b0 && decide (a1 = b1)
  | .Tuple a0 a1 a2, .Tuple b0 b1 b2 => eqEs a0 b0 && decide (a1 = b1) && decide (a2 = b2)
  | .Slice a0 a1 a2 a3, .Slice b0 b1 b2 b3 => eqEo a0 b0 && eqEo a1 b1 && eqEo a2 b2 && decide (a3 = b3)
  | .Call a0 a1 a2 a3, .Call b0 b1 b2 b3 => eqE a0 b0 && eqEs a1 b1 && (a2.isEmpty && b2.isEmpty) && decide (a3 = b3)
  | _, _ => false
def eqEs : List Expr → List Expr → Bool
  | [], [] => true
  | a :: as, b :: bs => eqE a b && eqEs as bs
  | _, _ => false
def eqEo : Option Expr → Option Expr → Bool
  | none, none => true
  | some a, some b => eqE a b
  | _, _ => false
end
mutual
theorem eqE_eq : ∀ {a b : Expr}, eqE a b = true → a = b
  | .BoolOp a0 a1 a2, b, h => by
    cases b with
    | BoolOp b0 b1 b2 =>
      simp only [eqE, Bool.and_eq_true, decide_eq_true_eq] at h
      obtain ⟨⟨h0, h1⟩, h2⟩ := h
      subst h0
      rw [eqEs_eq h1]
      subst h2
      all_goals rfl
    | _ => simp [eqE] at h
  | .BinOp a0 a1 a2 a3, b, h => by
    cases b with
    | BinOp b0 b1 b2 b3 =>
      simp only [eqE, Bool.and_eq_true, decide_eq_true_eq] at h
      obtain ⟨⟨⟨h0, h1⟩, h2⟩, h3⟩ := h
      rw [eqE_eq h0]
      subst h1
      rw [eqE_eq h2]
      subst h3
      all_goals rfl
    | _ => simp [eqE] at h
  | .UnaryOp a0 a1 a2, b, h => by
    cases b with
    | UnaryOp b0 b1 b2 =>
      simp only [eqE, Bool.and_eq_true, decide_eq_true_eq] at h
      obtain ⟨⟨h0, h1⟩, h2⟩ := h
      subst h0
      rw [eqE_eq h1]
      subst h2
      all_goals rfl
    | _ => simp [eqE] at h
  | .IfExp a0 a1 a2 a3, b, h => by
    cases b with
    | IfExp b0 b1 b2 b3 =>
      simp only [eqE, Bool.and_eq_true, decide_eq_true_eq] at h
      obtain ⟨⟨⟨h0, h1⟩, h2⟩, h3⟩ := h
      rw [eqE_eq h0]
      rw [eqE_eq h1]
      rw [eqE_eq h2]
      subst h3
      all_goals rfl
    | _ => simp [eqE] at h
  | .Compare a0 a1 a2 a3, b, h => by
    cases b with
    | Compare b0 b1 b2 b3 =>
      simp only [eqE, Bool.and_eq_true, decide_eq_true_eq] at h
      obtain ⟨⟨⟨h0, h1⟩, h2⟩, h3⟩ := h
      rw [eqE_eq h0]
      subst h1
      rw [eqEs_eq h2]
      subst h3
      all_goals rfl
    | _ => simp [eqE] at h
  | .Constant a0 a1 a2, b, h => by
    cases b with
    | Constant b0 b1 b2 =>
      simp only [eqE, Bool.and_eq_true, decide_eq_true_eq] at h
      obtain ⟨⟨h0, h1⟩, h2⟩ := h
      subst h0
      subst h1
      subst h2
      all_goals rfl
    | _ => simp [eqE] at h
  | .Attribute a0 a1 a2, b, h => by
    cases b with
    | Attribute b0 b1 b2 =>
      simp only [eqE, Bool.and_eq_true, decide_eq_true_eq] at h
      obtain ⟨⟨h0, h1⟩, h2⟩ := h
      rw [eqE_eq h0]
      subst h1
      subst h2
      all_goals rfl
    | _ => simp [eqE] at h
  | .Subscript a0 a1 a2, b, h => by
    cases b with
    | Subscript b0 b1 b2 =>
      simp only [eqE, Bool.and_eq_true, decide_eq_true_eq] at h
      obtain ⟨⟨h0, h1⟩, h2⟩ := h
      rw [eqE_eq h0]
      rw [eqE_eq h1]
      subst h2
      all_goals rfl
    | _ => simp [eqE] at h
  | .Name a0 a1, b, h => by
    cases b with
    | Name b0 b1 =>
      simp only [eqE, Bool.and_eq_true, decide_eq_true_eq] at h
      obtain ⟨h0, h1⟩ := h
      subst h0
      subst h1
      all_goals rfl
    | _ => simp [eqE] at h
  | .List a0 a1, b, h => by
    cases b with
    | List b0 b1 =>
      simp only [eqE, Bool.and_eq_true, decide_eq_true_eq] at h
      obtain ⟨h0, h1⟩ := h
      rw [eqEs_eq h0]
      subst h1
      all_goals rfl
    | _ => simp [eqE] at h
  | .Tuple a0 a1 a2, b, h => by
    cases b with
    | Tuple b0 b1 b2 =>
      simp only [eqE, Bool.and_eq_true, decide_eq_true_eq] at h
      obtain ⟨⟨h0, h1⟩, h2⟩ := h
      rw [eqEs_eq h0]
      subst h1
      subst h2
      all_goals rfl
    | _ => simp [eqE] at h
  | .Slice a0 a1 a2 a3, b, h => by
    cases b with
    | Slice b0 b1 b2 b3 =>
      simp only [eqE, Bool.and_eq_true, decide_eq_true_eq] at h
      obtain ⟨⟨⟨h0, h1⟩, h2⟩, h3⟩ := h
      rw [eqEo_eq h0]
      rw [eqEo_eq h1]
      rw [eqEo_eq h2]
      subst h3
      all_goals rfl
    | _ => simp [eqE] at h
  | .Call a0 a1 a2 a3, b, h => by
    cases b with
    | Call b0 b1 b2 b3 =>
      simp only [eqE, Bool.and_eq_true, decide_eq_true_eq] at h
      obtain ⟨⟨⟨h0, h1⟩, h2⟩, h3⟩ := h
      rw [eqE_eq h0]
      rw [eqEs_eq h1]
      rw [List.isEmpty_iff.mp h2.1, List.isEmpty_iff.mp h2.2]
      subst h3
      all_goals rfl
    | _ => simp [eqE] at h
  | .NamedExpr _ _ _, b, h => by simp [eqE] at h
  | .Lambda _ _ _ _, b, h => by simp [eqE] at h
  | .Dict _ _ _, b, h => by simp [eqE] at h
  | .Set _ _ _, b, h => by simp [eqE] at h
  | .ListComp _ _ _ _, b, h => by simp [eqE] at h
  | .SetComp _ _ _ _, b, h => by simp [eqE] at h
  | .DictComp _ _ _ _ _, b, h => by simp [eqE] at h
  | .GeneratorExp _ _ _ _, b, h => by simp [eqE] at h
  | .Await _ _, b, h => by simp [eqE] at h
  | .Yield _ _, b, h => by simp [eqE] at h
  | .YieldFrom _ _, b, h => by simp [eqE] at h
  | .FormattedValue _ _ _ _, b, h => by simp [eqE] at h
  | .JoinedStr _ _, b, h => by simp [eqE] at h
  | .Starred _ _, b, h => by simp [eqE] at h
theorem eqEs_eq : ∀ {a b : List Expr}, eqEs a b = true → a = b
  | [], b, h => by cases b <;> simp_all [eqEs]
  | a :: as, b, h => by
    cases b with
    | nil => simp [eqEs] at h
    | cons b bs =>
      simp only [eqEs, Bool.and_eq_true] at h
      rw [eqE_eq h.1, eqEs_eq h.2]
theorem eqEo_eq : ∀ {a b : Option Expr}, eqEo a b = true → a = b
  | none, b, h => by cases b <;> simp_all [eqEo]
  | some a, b, h => by
    cases b with
    | none => simp [eqEo] at h
    | some b =>
      simp only [eqEo] at h
      rw [eqE_eq h]
end
/-- the words of a lambda in the text -/
structure LamA where
  params : Arguments
  body : Expr
  scope : Scope
/-- the parameters: none, or one that has a number for default -/
def eqA (a b : Arguments) : Bool :=
  a.posonlyargs.isEmpty && b.posonlyargs.isEmpty && a.vararg.isNone && b.vararg.isNone && a.kwonlyargs.isEmpty && b.kwonlyargs.isEmpty && a.kw_defaults.isEmpty && b.kw_defaults.isEmpty && a.kwarg.isNone && b.kwarg.isNone && eqEs a.defaults b.defaults &&
    (match a.args, b.args with
    | [], [] => true
    | [⟨x, none, p⟩], [⟨y, none, q⟩] => decide (x = y) && decide (p = q)
    | _, _ => false)
theorem eqA_eq {a b : Arguments} (h : eqA a b = true) : a = b := by
  obtain ⟨a1, a2, a3, a4, a5, a6, a7⟩ := a
  obtain ⟨b1, b2, b3, b4, b5, b6, b7⟩ := b
  simp only [eqA, Bool.and_eq_true, List.isEmpty_iff, Option.isNone_iff_eq_none] at h
  obtain ⟨⟨⟨⟨⟨⟨⟨⟨⟨⟨⟨rfl, rfl⟩, rfl⟩, rfl⟩, rfl⟩, rfl⟩, rfl⟩, rfl⟩, rfl⟩, rfl⟩, h7⟩, h2⟩ := h
  rw [eqEs_eq h7]
  split at h2
  · rfl
  · simp only [Bool.and_eq_true, decide_eq_true_eq] at h2
    rw [h2.1, h2.2]
  · cases h2
def LamA.is (l : LamA) : Expr → Bool
  | .Lambda params body scope _ => eqA l.params params && eqE l.body body && decide (l.scope = scope)
  | _ => false
theorem LamA.is_eq {l : LamA} {params : Arguments} {body : Expr} {scope : Scope} {pos : Pos} (h : l.is (.Lambda params body scope pos) = true) : params = l.params ∧ body = l.body ∧ scope = l.scope := by
  simp only [LamA.is, Bool.and_eq_true, decide_eq_true_eq] at h
  exact ⟨(eqA_eq h.1.1).symm, (eqE_eq h.1.2).symm, h.2.symm⟩
end MP

set_option linter.all false
set_option autoImplicit false
set_option Elab.async false
namespace MP
open PySem L2

/-- what stands for the whole law: the written part, the code tables, classes, exceptions -/
structure Gm where
  K : PySem.W.Frag
  T : List NdefX.NTab
  ct : Nat → Option (Addr × List Str)
  xt : Nat → Option (Addr × Option Str)

/-- a tuple there: as the library tells it; one of the written part has no dict; one of a key's form (ky) is tracked -/
structure TupAt (ky : Bool) (K : PySem.W.Frag) (H : Hp) (a : Addr) (xs : List V) : Prop where
  sq : SqT K H a xs
  or : (∃ ys, H a = some (.tup ys)) ∨ ∃ o, K.lookup a = some o ∧ o.dict = none
  ky : ky = true → H a = some (.tup xs)
theorem TupAt.of {ky : Bool} {K : PySem.W.Frag} {H : Hp} {a : Addr} {xs : List V} (h : H a = some (.tup xs)) : TupAt ky K H a xs := ⟨SqT.of h, .inl ⟨xs, h⟩, fun _ => h⟩
/-- a list there that nobody writes -/
def FrzAt (K : PySem.W.Frag) (H : Hp) (a : Addr) (xs : List V) : Prop := (∃ o, H a = some (.frz o (.lst xs))) ∨ SqL K (fun _ => none) a xs
/-- what the written part alone tells holds over every heap -/
theorem sql_none {K : PySem.W.Frag} {H : Hp} {a : Addr} {xs : List V} (h : SqL K (fun _ => none) a xs) : SqL K H a xs := by
  rcases h with (z | ⟨_, z⟩) | told
  · cases z
  · cases z
  · exact .inr told
theorem FrzAt.sq {K : PySem.W.Frag} {H : Hp} {a : Addr} {xs : List V} (h : FrzAt K H a xs) : SqL K H a xs := h.elim (fun z => .inl (.inr z)) sql_none

mutual
def RepV (γ : Gm) (ρ : List Addr) (H : Hp) : IV → V → Prop
  | .non, v => v = .non
  | .bl b, v => v = .bl b
  | .int i, v => v = .int i
  | .str x, v => v = .str x
  | .tup xs, v => ∃ a vs, v = .ref a ∧ TupAt (keyT xs) γ.K H a vs ∧ RepVs γ ρ H xs vs
  | .frz ns, v => ∃ a, v = .ref a ∧ FrzAt γ.K H a (ns.map V.int)
  | .ref r, v => ∃ a, ρ[r]? = some a ∧ v = .ref a
def RepVs (γ : Gm) (ρ : List Addr) (H : Hp) : List IV → List V → Prop
  | [], vs => vs = []
  | x :: xs, vs => ∃ w ws, vs = w :: ws ∧ RepV γ ρ H x w ∧ RepVs γ ρ H xs ws
end
def cntS : List (Option IV) → Nat
  | [] => 0
  | none :: r => cntS r
  | some _ :: r => cntS r + 1
/-- a key's parts -/
def keysOf : List IV → Option (List L2.Key)
  | [] => some []
  | .int i :: r => (keysOf r).map (.inl i :: ·)
  | .str x :: r => (keysOf r).map (.inr x :: ·)
  | _ => none
def RepD (γ : Gm) (ρ : List Addr) (H : Hp) : List (IV × IV) → List (List L2.Key × V) → Prop
  | [], ks => ks = []
  | (k, x) :: r, ks => ∃ xs kk v t, ks = (kk, v) :: t ∧ k = .tup xs ∧ keysOf xs = some kk ∧ RepV γ ρ H x v ∧ RepD γ ρ H r t
def key1Of : IV → Option L2.Key
  | .int i => some (.inl i)
  | .str x => some (.inr x)
  | _ => none
def RepK (γ : Gm) (ρ : List Addr) (H : Hp) : List (IV × IV) → List (L2.Key × V) → Prop
  | [], ks => ks = []
  | (k, x) :: r, ks => ∃ kk v t, ks = (kk, v) :: t ∧ key1Of k = some kk ∧ RepV γ ρ H x v ∧ RepK γ ρ H r t
def RepO (γ : Gm) (ρ : List Addr) (H : Hp) (a : Addr) : IO → Prop
  | .lst xs => ∃ vs, H a = some (.lst vs) ∧ RepVs γ ρ H xs vs
  | .dic kvs => ∃ ks, H a = some (.dT ks) ∧ RepD γ ρ H kvs ks
  | .dk kvs => ∃ ks, H a = some (.dK ks) ∧ RepK γ ρ H kvs ks
  | .ins c fs => ∃ C dx flds gs, γ.ct c = some (C, flds) ∧ H a = some (.ins C dx gs) ∧ fs.length = flds.length ∧ gs.length ≤ cntS fs ∧ fs.length ≤ 100 ∧ flds.Nodup ∧
      (∀ p ∈ gs, p.1 ∈ flds) ∧ ∀ (j : Nat) (nm : Str), flds[j]? = some nm → (∀ x : IV, fs[j]? = some (some x) → ∃ w, gs.lookup nm = some w ∧ RepV γ ρ H x w) ∧ (fs[j]? = some none → gs.lookup nm = none)
structure Rep (γ : Gm) (ρ : List Addr) (st : Store) (H : Hp) : Prop where
  len : ρ.length = st.length
  nd : ρ.Nodup
  ob : ∀ (i : Nat) (o : IO), st[i]? = some o → ∃ a, ρ[i]? = some a ∧ RepO γ ρ H a o
  tb : NdefX.TabsN γ.T H
structure Ext (ρ : List Addr) (H : Hp) (ρ' : List Addr) (H' : Hp) : Prop where
  pre : ∃ t, ρ' = ρ ++ t
  keep : ∀ b o, H b = some o → b ∉ ρ → (∀ ps, o ≠ .tbl ps) → H' b = some o
  new : ∀ b, b ∈ ρ' → b ∈ ρ ∨ H b = none
  back : ∀ b, H' b = none → H b = none
theorem Ext.refl (ρ : List Addr) (H : Hp) : Ext ρ H ρ H := ⟨⟨[], by simp⟩, fun _ _ h _ _ => h, fun _ h => .inl h, fun _ h => h⟩
theorem Ext.trans {ρ ρ1 ρ2 : List Addr} {H H1 H2 : Hp} (a : Ext ρ H ρ1 H1) (b : Ext ρ1 H1 ρ2 H2) : Ext ρ H ρ2 H2 := by
  obtain ⟨t, e⟩ := a.pre
  obtain ⟨u, e2⟩ := b.pre
  refine ⟨⟨t ++ u, by rw [e2, e, List.append_assoc]⟩, fun c o h n nt => ?_, fun c h => ?_, fun c h => a.back c (b.back c h)⟩
  · refine b.keep c o (a.keep c o h n nt) (fun hc => ?_) nt
    rcases a.new c hc with z | z
    · exact n z
    · rw [h] at z; cases z
  · rcases b.new c h with z | z
    · exact a.new c z
    · exact .inr (a.back c z)
theorem Ext.get {ρ ρ' : List Addr} {H H' : Hp} (e : Ext ρ H ρ' H') {r : Nat} {a : Addr} (h : ρ[r]? = some a) : ρ'[r]? = some a := by
  obtain ⟨t, e⟩ := e.pre
  rw [e, List.getElem?_append_left (List.getElem?_eq_some_iff.mp h).1]
  exact h
theorem Ext.le {ρ ρ' : List Addr} {H H' : Hp} (e : Ext ρ H ρ' H') : ρ.length ≤ ρ'.length := by
  obtain ⟨t, e⟩ := e.pre
  rw [e, List.length_append]; omega
/-- a new object is laid -/
theorem Ext.laid {ρ : List Addr} {H : Hp} {p : Addr} {o : HO} (h : H p = none) : Ext ρ H ρ (upd H p o) :=
  ⟨⟨[], by simp⟩, fun b u e _ _ => by rw [upd_ne (ne_of_none e h)]; exact e, fun _ h => .inl h, fun b e => by
    by_cases q : b = p
    · rw [q]; exact h
    · rwa [upd_ne q] at e⟩

theorem Rep.mem {γ : Gm} {ρ : List Addr} {st : Store} {H : Hp} (R : Rep γ ρ st H) {a : Addr} (h : a ∈ ρ) : (∃ vs, H a = some (.lst vs)) ∨ (∃ C dx gs, H a = some (.ins C dx gs)) ∨ (∃ ks, H a = some (.dT ks)) ∨ ∃ ks, H a = some (.dK ks) := by
  obtain ⟨i, hi, e⟩ := List.getElem_of_mem h
  have hi2 : i < st.length := by rw [← R.len]; exact hi
  obtain ⟨b, e1, e2⟩ := R.ob i st[i] (List.getElem?_eq_getElem hi2)
  rw [List.getElem?_eq_getElem hi, e] at e1
  cases e1
  generalize st[i] = o at e2
  cases o with
  | lst xs => obtain ⟨vs, h, _⟩ := e2; exact .inl ⟨vs, h⟩
  | dic kvs => obtain ⟨ks, h, _⟩ := e2; exact .inr (.inr (.inl ⟨ks, h⟩))
  | dk kvs => obtain ⟨ks, h, _⟩ := e2; exact .inr (.inr (.inr ⟨ks, h⟩))
  | ins c fs => obtain ⟨C, dx, flds, gs, _, h, _⟩ := e2; exact .inr (.inl ⟨C, dx, gs, h⟩)
theorem Rep.tracked {γ : Gm} {ρ : List Addr} {st : Store} {H : Hp} (R : Rep γ ρ st H) {a : Addr} (h : a ∈ ρ) : H a ≠ none := by
  rcases R.mem h with ⟨_, e⟩ | ⟨_, _, _, e⟩ | ⟨_, e⟩ | ⟨_, e⟩ <;> rw [e] <;> simp
theorem Rep.ntup {γ : Gm} {ρ : List Addr} {st : Store} {H : Hp} (R : Rep γ ρ st H) {a : Addr} {xs : List V} (h : H a = some (.tup xs)) : a ∉ ρ := fun z => by
  rcases R.mem z with ⟨_, e⟩ | ⟨_, _, _, e⟩ | ⟨_, e⟩ | ⟨_, e⟩ <;> rw [h] at e <;> cases e
theorem Rep.nfrz {γ : Gm} {ρ : List Addr} {st : Store} {H : Hp} (R : Rep γ ρ st H) {a : Addr} {o : Obj} {u : HO} (h : H a = some (.frz o u)) : a ∉ ρ := fun z => by
  rcases R.mem z with ⟨_, e⟩ | ⟨_, _, _, e⟩ | ⟨_, e⟩ | ⟨_, e⟩ <;> rw [h] at e <;> cases e

theorem TupAt.mono {ky : Bool} {γ : Gm} {ρ ρ' : List Addr} {st : Store} {H H' : Hp} {a : Addr} {xs : List V} (R : Rep γ ρ st H) (e : Ext ρ H ρ' H') (h : TupAt ky γ.K H a xs) : TupAt ky γ.K H' a xs := by
  have k1 : ∀ {ys : List V}, H a = some (.tup ys) → H' a = some (.tup ys) := fun {ys} z => e.keep _ _ z (R.ntup z) (by intro _ q; cases q)
  refine ⟨?_, h.or.imp_left fun ⟨ys, z⟩ => ⟨ys, k1 z⟩, fun z => k1 (h.ky z)⟩
  rcases h.sq with (z | ⟨o, z⟩) | told
  · exact SqT.of (k1 z)
  · exact .inl (.inr ⟨o, e.keep _ _ z (R.nfrz z) (by intro _ q; cases q)⟩)
  · exact .inr told
theorem FrzAt.mono {γ : Gm} {ρ ρ' : List Addr} {st : Store} {H H' : Hp} {a : Addr} {xs : List V} (R : Rep γ ρ st H) (e : Ext ρ H ρ' H') (h : FrzAt γ.K H a xs) : FrzAt γ.K H' a xs :=
  h.imp_left fun ⟨o, z⟩ => ⟨o, e.keep _ _ z (R.nfrz z) (by intro _ q; cases q)⟩
mutual
theorem RepV.mono {γ : Gm} {ρ ρ' : List Addr} {st : Store} {H H' : Hp} (R : Rep γ ρ st H) (e : Ext ρ H ρ' H') : ∀ {x : IV} {v : V}, RepV γ ρ H x v → RepV γ ρ' H' x v
  | .non, _, h => h
  | .bl _, _, h => h
  | .int _, _, h => h
  | .str _, _, h => h
  | .tup xs, _, h => by
    simp only [RepV] at h ⊢
    obtain ⟨a, vs, rfl, h1, h2⟩ := h
    exact ⟨a, vs, rfl, h1.mono R e, RepVs.mono R e h2⟩
  | .frz ns, _, h => by
    simp only [RepV] at h ⊢
    obtain ⟨a, rfl, h1⟩ := h
    exact ⟨a, rfl, h1.mono R e⟩
  | .ref r, _, h => by
    simp only [RepV] at h ⊢
    obtain ⟨a, h1, rfl⟩ := h
    exact ⟨a, e.get h1, rfl⟩
theorem RepVs.mono {γ : Gm} {ρ ρ' : List Addr} {st : Store} {H H' : Hp} (R : Rep γ ρ st H) (e : Ext ρ H ρ' H') : ∀ {x : List IV} {v : List V}, RepVs γ ρ H x v → RepVs γ ρ' H' x v
  | [], _, h => h
  | x :: xs, _, h => by
    simp only [RepVs] at h ⊢
    obtain ⟨w, ws, rfl, h1, h2⟩ := h
    exact ⟨w, ws, rfl, h1.mono R e, RepVs.mono R e h2⟩
end
theorem RepD.mono {γ : Gm} {ρ ρ' : List Addr} {st : Store} {H H' : Hp} (R : Rep γ ρ st H) (e : Ext ρ H ρ' H') : ∀ {x : List (IV × IV)} {v : List (List L2.Key × V)}, RepD γ ρ H x v → RepD γ ρ' H' x v
  | [], _, h => h
  | (k, x) :: xs, _, h => by
    simp only [RepD] at h ⊢
    obtain ⟨ys, kk, v, t, rfl, rfl, h1, h2, h3⟩ := h
    exact ⟨ys, kk, v, t, rfl, rfl, h1, h2.mono R e, RepD.mono R e h3⟩
theorem RepK.mono {γ : Gm} {ρ ρ' : List Addr} {st : Store} {H H' : Hp} (R : Rep γ ρ st H) (e : Ext ρ H ρ' H') : ∀ {x : List (IV × IV)} {v : List (L2.Key × V)}, RepK γ ρ H x v → RepK γ ρ' H' x v
  | [], _, h => h
  | (k, x) :: xs, _, h => by
    simp only [RepK] at h ⊢
    obtain ⟨kk, v, t, rfl, h1, h2, h3⟩ := h
    exact ⟨kk, v, t, rfl, h1, h2.mono R e, RepK.mono R e h3⟩
theorem RepVs.length {γ : Gm} {ρ : List Addr} {H : Hp} : ∀ {xs : List IV} {vs : List V}, RepVs γ ρ H xs vs → vs.length = xs.length
  | [], _, h => by simp only [RepVs] at h; rw [h]; rfl
  | x :: xs, _, h => by
    simp only [RepVs] at h
    obtain ⟨w, ws, rfl, _, h2⟩ := h
    simp [RepVs.length h2]
theorem RepVs.get {γ : Gm} {ρ : List Addr} {H : Hp} : ∀ {xs : List IV} {vs : List V} {i : Nat} {x : IV}, RepVs γ ρ H xs vs → xs[i]? = some x → ∃ v, vs[i]? = some v ∧ RepV γ ρ H x v
  | [], _, _, _, _, e => by simp at e
  | x :: xs, _, 0, y, h, e => by
    simp only [RepVs] at h
    obtain ⟨w, ws, rfl, h1, h2⟩ := h
    simp at e; subst e
    exact ⟨w, rfl, h1⟩
  | x :: xs, _, i + 1, y, h, e => by
    simp only [RepVs] at h
    obtain ⟨w, ws, rfl, h1, h2⟩ := h
    obtain ⟨v, q1, q2⟩ := RepVs.get (i := i) h2 (by simpa using e)
    exact ⟨v, by simpa using q1, q2⟩
theorem RepVs.app {γ : Gm} {ρ : List Addr} {H : Hp} : ∀ {xs ys : List IV} {vs ws : List V}, RepVs γ ρ H xs vs → RepVs γ ρ H ys ws → RepVs γ ρ H (xs ++ ys) (vs ++ ws)
  | [], _, _, _, h, q => by simp only [RepVs] at h; rw [h]; exact q
  | x :: xs, _, _, _, h, q => by
    simp only [RepVs, List.cons_append] at h ⊢
    obtain ⟨w, ws, rfl, h1, h2⟩ := h
    exact ⟨w, ws ++ _, rfl, h1, RepVs.app h2 q⟩
theorem RepVs.take {γ : Gm} {ρ : List Addr} {H : Hp} : ∀ (n : Nat) {xs : List IV} {vs : List V}, RepVs γ ρ H xs vs → RepVs γ ρ H (xs.take n) (vs.take n)
  | 0, _, _, _ => by simp only [List.take_zero, RepVs]
  | n + 1, [], _, h => by simp only [RepVs] at h; rw [h]; simp [RepVs]
  | n + 1, x :: xs, _, h => by
    simp only [RepVs, List.take_succ_cons] at h ⊢
    obtain ⟨w, ws, rfl, h1, h2⟩ := h
    exact ⟨w, ws.take n, rfl, h1, RepVs.take n h2⟩
theorem RepVs.drop {γ : Gm} {ρ : List Addr} {H : Hp} : ∀ (n : Nat) {xs : List IV} {vs : List V}, RepVs γ ρ H xs vs → RepVs γ ρ H (xs.drop n) (vs.drop n)
  | 0, _, _, h => h
  | n + 1, [], _, h => by simp only [RepVs] at h; rw [h]; simp [RepVs]
  | n + 1, x :: xs, _, h => by
    simp only [RepVs] at h
    obtain ⟨w, ws, rfl, h1, h2⟩ := h
    exact RepVs.drop n h2
theorem RepVs.set {γ : Gm} {ρ : List Addr} {H : Hp} {y : IV} {w : V} (r : RepV γ ρ H y w) : ∀ (n : Nat) {xs : List IV} {vs : List V}, RepVs γ ρ H xs vs → RepVs γ ρ H (xs.set n y) (vs.set n w)
  | n, [], _, h => by simp only [RepVs] at h; rw [h]; simp [RepVs]
  | 0, x :: xs, _, h => by
    simp only [RepVs] at h
    obtain ⟨w, ws, rfl, h1, h2⟩ := h
    simp only [List.set_cons_zero, RepVs]
    exact ⟨_, _, rfl, r, h2⟩
  | n + 1, x :: xs, _, h => by
    simp only [RepVs] at h
    obtain ⟨w, ws, rfl, h1, h2⟩ := h
    simp only [List.set_cons_succ, RepVs]
    exact ⟨_, _, rfl, h1, RepVs.set r n h2⟩
theorem RepVs.ints {γ : Gm} {ρ : List Addr} {H : Hp} : ∀ (ns : List Int), RepVs γ ρ H (ns.map .int) (ns.map V.int)
  | [] => by simp [RepVs]
  | n :: ns => by simp only [List.map_cons, RepVs]; exact ⟨_, _, rfl, rfl, RepVs.ints ns⟩
theorem RepVs.asInts {γ : Gm} {ρ : List Addr} {H : Hp} : ∀ {xs : List IV} {vs : List V} {ns : List Int}, RepVs γ ρ H xs vs → asInts xs = some ns → vs = ns.map V.int
  | [], _, _, h, e => by simp only [MP.asInts] at e; cases e; simp only [RepVs] at h; rw [h]; rfl
  | x :: xs, _, ns, h, e => by
    simp only [RepVs] at h
    obtain ⟨w, ws, rfl, h1, h2⟩ := h
    cases x with
    | int i =>
      simp only [MP.asInts] at e
      cases q : MP.asInts xs with
      | none => rw [q] at e; cases e
      | some ms =>
        rw [q] at e
        cases e
        rw [RepVs.asInts h2 q]
        simp only [RepV] at h1
        rw [h1]; rfl
    | _ => simp [MP.asInts] at e
theorem RepVs.asBools {γ : Gm} {ρ : List Addr} {H : Hp} : ∀ {xs : List IV} {vs : List V} {ns : List Bool}, RepVs γ ρ H xs vs → asBools xs = some ns → vs = ns.map V.bl
  | [], _, _, h, e => by simp only [MP.asBools] at e; cases e; simp only [RepVs] at h; rw [h]; rfl
  | x :: xs, _, ns, h, e => by
    simp only [RepVs] at h
    obtain ⟨w, ws, rfl, h1, h2⟩ := h
    cases x with
    | bl i =>
      simp only [MP.asBools] at e
      cases q : MP.asBools xs with
      | none => rw [q] at e; cases e
      | some ms =>
        rw [q] at e
        cases e
        rw [RepVs.asBools h2 q]
        simp only [RepV] at h1
        rw [h1]; rfl
    | _ => simp [MP.asBools] at e

/-! ### values on their way -/
def RepT (γ : Gm) (ρ : List Addr) (H : Hp) : TV → V → Prop
  | .v x, v => RepV γ ρ H x v
  | .l xs, v => ∃ a vs, v = .ref a ∧ H a = some (.lst vs) ∧ a ∉ ρ ∧ RepVs γ ρ H xs vs
  | .s _, _ => False
  | .d _, _ => False
/-- the addresses that a value on its way owns -/
def ownA : TV → V → List Addr
  | .v _, _ => []
  | _, .ref a => [a]
  | _, _ => []
theorem RepT.mono {γ : Gm} {ρ ρ' : List Addr} {st : Store} {H H' : Hp} (R : Rep γ ρ st H) (e : Ext ρ H ρ' H') : ∀ {x : TV} {v : V}, RepT γ ρ H x v → RepT γ ρ' H' x v
  | .v x, _, h => RepV.mono R e h
  | .l xs, _, h => by
    obtain ⟨a, vs, rfl, h1, h2, h3⟩ := h
    refine ⟨a, vs, rfl, e.keep _ _ h1 h2 (fun _ z => by cases z), fun z => ?_, h3.mono R e⟩
    rcases e.new a z with z | z
    · exact h2 z
    · rw [h1] at z; cases z
  | .s _, _, h => h
  | .d _, _, h => h
def RepTs (γ : Gm) (ρ : List Addr) (H : Hp) : List TV → List V → Prop
  | [], vs => vs = []
  | x :: xs, vs => ∃ w ws, vs = w :: ws ∧ RepT γ ρ H x w ∧ RepTs γ ρ H xs ws
def ownAs : List TV → List V → List Addr
  | x :: xs, v :: vs => ownA x v ++ ownAs xs vs
  | _, _ => []
theorem RepTs.mono {γ : Gm} {ρ ρ' : List Addr} {st : Store} {H H' : Hp} (R : Rep γ ρ st H) (e : Ext ρ H ρ' H') : ∀ {x : List TV} {v : List V}, RepTs γ ρ H x v → RepTs γ ρ' H' x v
  | [], _, h => h
  | x :: xs, _, h => by
    simp only [RepTs] at h ⊢
    obtain ⟨w, ws, rfl, h1, h2⟩ := h
    exact ⟨w, ws, rfl, h1.mono R e, RepTs.mono R e h2⟩
theorem RepT.own {γ : Gm} {ρ : List Addr} {H : Hp} {x : TV} {v : V} (h : RepT γ ρ H x v) {a : Addr} (ha : a ∈ ownA x v) : a ∉ ρ ∧ H a ≠ none := by
  cases x with
  | v x => simp [ownA] at ha
  | l xs =>
    obtain ⟨b, vs, rfl, h1, h2, h3⟩ := h
    simp only [ownA, List.mem_singleton] at ha
    subst ha
    exact ⟨h2, by rw [h1]; simp⟩
  | s _ => exact h.elim
  | d _ => exact h.elim

/-! ### what an outcome must satisfy -/
def RepX (γ : Gm) (ρ : List Addr) (H : Hp) (e : Exn) (cls : Value) (d : Option Addr) : Prop :=
  ∃ C f, γ.xt e.cls = some (C, f) ∧ cls = .ref C ∧ match f, e.val with
    | none, none => d = none
    | some nm, some x => ∃ (dd : Addr) (v : V), d = some dd ∧ H dd = some (.xd [(nm, v)]) ∧ RepV γ ρ H x v
    | _, _ => False
def Aft (γ : Gm) (ρ : List Addr) (H : Hp) (r : Res TV) (Q : VK) (E : XK) : Prop := match r with
  | .ok x st => ∀ ρ' H' v, Ext ρ H ρ' H' → Rep γ ρ' st H' → RepT γ ρ' H' x v → (∀ a ∈ ownA x v, H a = none) → Q v H'
  | .exc e st => ∀ ρ' H' cls d, Ext ρ H ρ' H' → Rep γ ρ' st H' → RepX γ ρ' H' e cls d → E cls d H'
  | .bad => False
def AftL (γ : Gm) (ρ : List Addr) (H : Hp) (r : Res (List TV)) (Q : List V → Hp → Prop) (E : XK) : Prop := match r with
  | .ok x st => ∀ ρ' H' v, Ext ρ H ρ' H' → Rep γ ρ' st H' → RepTs γ ρ' H' x v → (ownAs x v).Nodup → (∀ a ∈ ownAs x v, H a = none) → Q v H'
  | .exc e st => ∀ ρ' H' cls d, Ext ρ H ρ' H' → Rep γ ρ' st H' → RepX γ ρ' H' e cls d → E cls d H'
  | .bad => False
theorem Aft.ext {γ : Gm} {ρ ρ1 : List Addr} {H H1 : Hp} {r : Res TV} {Q : VK} {E : XK} (h : Aft γ ρ H r Q E) (e : Ext ρ H ρ1 H1) : Aft γ ρ1 H1 r Q E := by
  cases r with
  | ok x st => exact fun ρ' H' v e' R T o => h ρ' H' v (e.trans e') R T fun a ha => e.back a (o a ha)
  | exc x st => exact fun ρ' H' cls d e' R T => h ρ' H' cls d (e.trans e') R T
  | bad => exact h
theorem AftL.ext {γ : Gm} {ρ ρ1 : List Addr} {H H1 : Hp} {r : Res (List TV)} {Q : List V → Hp → Prop} {E : XK} (h : AftL γ ρ H r Q E) (e : Ext ρ H ρ1 H1) : AftL γ ρ1 H1 r Q E := by
  cases r with
  | ok x st => exact fun ρ' H' v e' R T n o => h ρ' H' v (e.trans e') R T n fun a ha => e.back a (o a ha)
  | exc x st => exact fun ρ' H' cls d e' R T => h ρ' H' cls d (e.trans e') R T
  | bad => exact h
theorem Aft.bind {γ : Gm} {ρ : List Addr} {H : Hp} {r : Res TV} {f : TV → Store → Res TV} {Q : VK} {E : XK} (h : Aft γ ρ H (r.bind f) Q E) :
    Aft γ ρ H r (fun v H1 => ∃ ρ1 st1 x, Ext ρ H ρ1 H1 ∧ Rep γ ρ1 st1 H1 ∧ RepT γ ρ1 H1 x v ∧ (∀ a ∈ ownA x v, H a = none) ∧ Aft γ ρ H (f x st1) Q E) E := by
  cases r with
  | ok x st => exact fun ρ' H' v e R T o => ⟨ρ', st, x, e, R, T, o, h⟩
  | exc x st => exact h
  | bad => exact h
theorem Aft.bindL {γ : Gm} {ρ : List Addr} {H : Hp} {r : Res (List TV)} {f : List TV → Store → Res TV} {Q : VK} {E : XK} (h : Aft γ ρ H (r.bind f) Q E) :
    AftL γ ρ H r (fun v H1 => ∃ ρ1 st1 x, Ext ρ H ρ1 H1 ∧ Rep γ ρ1 st1 H1 ∧ RepTs γ ρ1 H1 x v ∧ (ownAs x v).Nodup ∧ (∀ a ∈ ownAs x v, H a = none) ∧ Aft γ ρ H (f x st1) Q E) E := by
  cases r with
  | ok x st => exact fun ρ' H' v e R T n o => ⟨ρ', st, x, e, R, T, n, o, h⟩
  | exc x st => exact h
  | bad => exact h
theorem Aft.imp {γ : Gm} {ρ : List Addr} {H : Hp} {r : Res TV} {Q Q' : VK} {E : XK} (h : Aft γ ρ H r Q E) (q : ∀ v H', Q v H' → Q' v H') : Aft γ ρ H r Q' E := by
  cases r with
  | ok x st => exact fun ρ' H' v e R T o => q _ _ (h ρ' H' v e R T o)
  | exc x st => exact h
  | bad => exact h
/-- an outcome that is there now -/
theorem Aft.now {γ : Gm} {ρ : List Addr} {H : Hp} {x : TV} {st : Store} {Q : VK} {E : XK} (h : Aft γ ρ H (.ok x st) Q E) {v : V} (R : Rep γ ρ st H) (T : RepT γ ρ H x v) (o : ∀ a ∈ ownA x v, H a = none) : Q v H :=
  h ρ H v (.refl ρ H) R T o

/-! ### the slots -/
/-- a lambda of the text, made in this frame -/
structure LT where
  params : Arguments
  body : Expr
  scope : Scope
  qual : Str
  cl : List (Str × Addr)
  dv : List V
/-- the object at f is the lambda L -/
def LamO (f : Addr) (L : LT) (c' : Addr) (dV : Value) : HO := .ext fun h => ∃ (doc pm ctv : Value), h.get? f = some (PySem.W.kdv_obj "<lambda>" L.qual L.params (.expr L.body) L.scope L.cl dV doc pm c' ctv)
/-- the object at t is the tuple of the defaults -/
def DfO (t : Addr) (dv : List V) : HO := .ext fun h => ∃ us, Vals dv us ∧ h.get? t = some (PySem.W.kdv_tup us)
def LamAt (H : Hp) (L : LT) (f : Addr) : Prop := ∃ c' dV, H f = some (LamO f L c' dV) ∧ H c' = some (LamX.CodeO c' L.qual) ∧ ((dV = .none ∧ L.dv = []) ∨ ∃ t, dV = .ref t ∧ L.dv ≠ [] ∧ H t = some (DfO t L.dv))
def LamsAt (lam : Nat → Option LT) (H : Hp) : List Nat → List Addr → Prop
  | [], fs => fs = []
  | k :: ks, fs => ∃ f gs L, fs = f :: gs ∧ lam k = some L ∧ LamAt H L f ∧ LamsAt lam H ks gs
/-- what a frame's slots stand for beyond the values: the exception at hand, the lambdas made here -/
structure HX where
  p : Option Exn → L2.St → Prop
  lam : Nat → Option LT := fun _ => none
  hd : Option (Value × Option Addr) := none
  at_ : Option (LT × Addr) := none
instance : CoeFun HX (fun _ => Option Exn → L2.St → Prop) := ⟨HX.p⟩
theorem ext_keep {γ : Gm} {ρ ρ' : List Addr} {st : Store} {H H' : Hp} (R : Rep γ ρ st H) (e : Ext ρ H ρ' H') {a : Addr} {φ : Heap → Prop} (h : H a = some (.ext φ)) : H' a = some (.ext φ) :=
  e.keep _ _ h (fun z => by rcases R.mem z with ⟨_, q⟩ | ⟨_, _, _, q⟩ | ⟨_, q⟩ | ⟨_, q⟩ <;> rw [h] at q <;> cases q) (fun _ z => by cases z)
theorem LamAt.mono {γ : Gm} {ρ ρ' : List Addr} {st : Store} {H H' : Hp} {L : LT} {f : Addr} (R : Rep γ ρ st H) (e : Ext ρ H ρ' H') (h : LamAt H L f) : LamAt H' L f := by
  obtain ⟨c', dV, h1, h2, h3⟩ := h
  refine ⟨c', dV, ext_keep R e h1, ext_keep R e h2, ?_⟩
  rcases h3 with h3 | ⟨t, q1, q2, q3⟩
  · exact .inl h3
  · exact .inr ⟨t, q1, q2, ext_keep R e q3⟩
theorem LamsAt.mono {γ : Gm} {ρ ρ' : List Addr} {st : Store} {H H' : Hp} {lam : Nat → Option LT} (R : Rep γ ρ st H) (e : Ext ρ H ρ' H') : ∀ {ks : List Nat} {fs : List Addr}, LamsAt lam H ks fs → LamsAt lam H' ks fs
  | [], _, h => h
  | k :: ks, _, h => by
    simp only [LamsAt] at h ⊢
    obtain ⟨f, gs, L, h1, h2, h3, h4⟩ := h
    exact ⟨f, gs, L, h1, h2, h3.mono R e, LamsAt.mono R e h4⟩
theorem RepX.mono {γ : Gm} {ρ ρ' : List Addr} {st : Store} {H H' : Hp} {x : Exn} {cls : Value} {d : Option Addr} (R : Rep γ ρ st H) (e : Ext ρ H ρ' H') (h : RepX γ ρ H x cls d) : RepX γ ρ' H' x cls d := by
  obtain ⟨C, f, h1, h2, h3⟩ := h
  refine ⟨C, f, h1, h2, ?_⟩
  split at h3
  · exact h3
  · obtain ⟨dd, v, q1, q2, q3⟩ := h3
    exact ⟨dd, v, q1, e.keep _ _ q2 (fun z => by rcases R.mem z with ⟨_, q⟩ | ⟨_, _, _, q⟩ | ⟨_, q⟩ | ⟨_, q⟩ <;> rw [q2] at q <;> cases q) (fun _ z => by cases z), q3.mono R e⟩
  · exact h3.elim
structure REnv (γ : Gm) (hx : HX) (ρ : List Addr) (H : Hp) (env : Env) (σ : L2.St) : Prop where
  len : env.sl.length = σ.length
  sl : ∀ (i : Nat) (x : IV), env.sl[i]? = some (some x) → ∃ v, σ[i]? = some (some v) ∧ RepV γ ρ H x v
  hv : ∀ e, env.hx = some e → ∃ p, hx.hd = some p ∧ RepX γ ρ H e p.1 p.2
  lm : ∀ q ∈ env.lm, ∃ a fs, σ[q.1]? = some (some (.ref a)) ∧ H a = some (.lst (fs.map V.ref)) ∧ a ∉ ρ ∧ LamsAt hx.lam H q.2 fs
  la : ∀ p, hx.at_ = some p → LamAt H p.1 p.2
theorem REnv.mono {γ : Gm} {hx : HX} {ρ ρ' : List Addr} {st : Store} {H H' : Hp} {env : Env} {σ : L2.St} (R : Rep γ ρ st H) (e : Ext ρ H ρ' H') (h : REnv γ hx ρ H env σ) : REnv γ hx ρ' H' env σ :=
  ⟨h.len, fun i x q => let ⟨v, h1, h2⟩ := h.sl i x q; ⟨v, h1, h2.mono R e⟩, fun x q => let ⟨p, h1, h2⟩ := h.hv x q; ⟨p, h1, h2.mono R e⟩, fun q hq => by
    obtain ⟨a, fs, h1, h2, h3, h4⟩ := h.lm q hq
    refine ⟨a, fs, h1, e.keep _ _ h2 h3 (fun _ z => by cases z), fun z => ?_, h4.mono R e⟩
    rcases e.new a z with z | z
    · exact h3 z
    · (rw [h2] at z; cases z), fun p hp => (h.la p hp).mono R e⟩
/-- the lambda lists are no younger than H0 -/
def LmOld (env : Env) (σ : L2.St) (H0 : Hp) : Prop := ∀ q ∈ env.lm, ∀ a, σ[q.1]? = some (some (.ref a)) → H0 a ≠ none
theorem REnv.old {γ : Gm} {hx : HX} {ρ : List Addr} {H : Hp} {env : Env} {σ : L2.St} (h : REnv γ hx ρ H env σ) : LmOld env σ H := fun q hq a ha => by
  obtain ⟨b, fs, h1, h2, _⟩ := h.lm q hq
  rw [h1] at ha
  cases ha
  rw [h2]; simp

/-- an expression's reading -/
def tI (γ : Gm) (W : WX) (hx : HX) (m : Env → Store → Res TV) : TE := fun σ H Q => ∃ ρ env st, hx env.hx σ ∧ Rep γ ρ st H ∧ REnv γ hx ρ H env σ ∧ Aft γ ρ H (m env st) Q (fun cls d H' => W cls d σ H')
def tIL (γ : Gm) (W : WX) (hx : HX) (m : Env → Store → Res (List TV)) : TA := fun σ H Q => ∃ ρ env st, hx env.hx σ ∧ Rep γ ρ st H ∧ REnv γ hx ρ H env σ ∧ AftL γ ρ H (m env st) Q (fun cls d H' => W cls d σ H')
theorem PE.imp {X : Cx} {e : Expr} {t t' : TE} (h : PE X e t) (q : ∀ σ H Q, t' σ H Q → t σ H Q) : PE X e t' := ⟨fun pins s σ H Q I hw => h.run pins s σ H Q I (q _ _ _ hw)⟩
theorem PT.imp {X : Cx} {e : Expr} {t t' : TT} (h : PT X e t) (q : ∀ σ H Q, t' σ H Q → t σ H Q) : PT X e t' := ⟨fun pins s σ H Q I hw => h.run pins s σ H Q I (q _ _ _ hw)⟩
theorem PA.imp {X : Cx} {e : List Expr} {t t' : TA} (h : PA X e t) (q : ∀ σ H Q, t' σ H Q → t σ H Q) : PA X e t' := ⟨fun pos pins s σ H Q I hw => h.run pos pins s σ H Q I (q _ _ _ hw)⟩
theorem PS.imp {X : Cx} {e : Stmt} {t t' : TS} (h : PS X e t) (q : ∀ D σ H, t' D σ H → t D σ H) : PS X e t' := ⟨fun pins s σ H D I hw => h.run pins s σ H D I (q _ _ _ hw)⟩
theorem PSs.imp {X : Cx} {e : List Stmt} {t t' : TS} (h : PSs X e t) (q : ∀ D σ H, t' D σ H → t D σ H) : PSs X e t' := ⟨fun pins s σ H D I hw => h.run pins s σ H D I (q _ _ _ hw)⟩
theorem PG.imp {X : Cx} {e : Expr} {t t' : TG} (h : PG X e t) (q : ∀ v σ H Q, t' v σ H Q → t v σ H Q) : PG X e t' := ⟨fun pins s σ H v u Q I r hw => h.run pins s σ H v u Q I r (q _ _ _ _ hw)⟩
end MP

set_option linter.all false
set_option autoImplicit false
set_option Elab.async false
set_option maxRecDepth 100000
namespace MP
open PySem PySem.SeqAt PySem.W PyProof.Rows
open PySem.AutoSeq1 (wpAny_loadPart')
open PySem.MeetsSeq PySem.MeetsSeq2 PySem.MeetsSeq3

/-! ### t < u, compared as far as it goes -/
/-- the walk over two tuples' items: equal ones, then the first that differ, or the end -/
inductive LtRun (A : Around) (s : Shared) (fin : Bool) : List (Value × Value) → Bool → Prop
  | nil : LtRun A s fin [] fin
  | eq {y x : Value} {rest : List (Value × Value)} {k : Bool} : EqAt A s y x true → LtRun A s fin rest k → LtRun A s fin ((y, x) :: rest) k
  | ne {y x : Value} {rest : List (Value × Value)} {k : Bool} : EqAt A s y x false → RcLt A s y x k → LtRun A s fin ((y, x) :: rest) k
theorem ltTup_at (p q : Addr) (us ws : Array Value) (m n : Nat) (d1 d2 : Option Addr) (o1 o2 : Array (Option Value)) (k : Bool) :
    Meets (Builtin.«tuple.__lt__» ⟨[.ref p, .ref q], []⟩)
      (fun A R s => s.heap.get? p = some { cls := .type "tuple", dict := d1, data := .seq us m, slots := o1 } ∧ s.heap.get? q = some { cls := .type "tuple", dict := d2, data := .seq ws n, slots := o2 } ∧
        LtRun A.in1 s (decide (us.size < ws.size)) (us.toList.zip ws.toList) k ∧ R (.ok (.ret (.bool k))) s) :=
  .of_wp fun prog w A R s hyp => by
    obtain ⟨hp, gs, dr, tk, os⟩ := s; obtain ⟨atP, atQ, run, goal⟩ := hyp
    have f2 := AutoSeq1.sub_tuple_tuple
    wp_walk using wpAny_loadPart' atP, wpAny_loadPart' atQ, wpAny_forIn_list _ (fun rest b s' => b.1 = none ∧ s' = ⟨hp, gs, dr, tk, os⟩ ∧ LtRun A.in1 ⟨hp, gs, dr, tk, os⟩ (decide (us.size < ws.size)) rest k) _
    case turn =>
      rintro ⟨y, x⟩ rest b s' ⟨hb', rfl, run⟩
      cases run with
      | eq he more =>
        refine wpAny_bind (he prog w _ _ ?_)
        wp_walk
        exact ⟨rfl, rfl, more⟩
      | ne he lt =>
        refine wpAny_bind (he prog w _ _ ?_)
        have less := lt prog w
        wp_walk using less
        exact ⟨_, rfl, goal⟩
    case fin =>
      rintro ⟨b1, b2⟩ s' ⟨hb', rfl, run⟩
      simp only at hb'
      subst hb'
      cases run
      wp_walk
      exact ⟨_, rfl, by simpa [Builtin.Tuple.tupleCompareSizes] using goal⟩
    case h =>
      exact ⟨rfl, rfl, by simpa using run⟩
theorem ltTup_op {A : Around} {s : Shared} {p q : Addr} {us ws : Array Value} {k : Bool} (tp : s.heap.IsTuple p us) (tq : s.heap.IsTuple q ws) (room : A.units < cLine) (run : LtRun A.in1 s (decide (us.size < ws.size)) (us.toList.zip ws.toList) k) :
    Ob.RcOp .Lt A s (.ref p) (.ref q) k := fun prog w E Q goal => by
  obtain ⟨⟨c1, d1, x1, o1⟩, at1, e1, m1, z1⟩ := id tp
  obtain ⟨⟨c2, d2, x2, o2⟩, at2, e2, m2, z2⟩ := id tq
  simp only at e1 z1 e2 z2
  subst e1 z1 e2 z2
  refine richCompare_meets_room (op := .Lt) ⟨_, at1, rfl⟩ ⟨_, at2, rfl⟩ PySem.F.slot_tuple_lt PySem.F.entry_tuple_lt (PySem.F.args_tuple_lt_2 _ _) (ltTup_at p q us ws m1 m2 d1 d2 o1 o2 k) ⟨at1, at2, run, ⟨(fun z => nomatch z), goal⟩⟩ room
/-! ### data -/
/-- rows of data that can be told apart in time -/
def mixD : List PyData → List PyData → Bool
  | x :: xs, y :: ys => alike x y && (!PyData.eqv x y || mixD xs ys)
  | _, _ => true
theorem mixD_cons {x y : PyData} {xs ys : List PyData} (h : mixD (x :: xs) (y :: ys) = true) : alike x y = true ∧ (PyData.eqv x y = true → mixD xs ys = true) := by
  simp only [mixD, Bool.and_eq_true, Bool.or_eq_true, Bool.not_eq_true'] at h
  exact ⟨h.1, fun e => h.2.resolve_left (by rw [e]; decide)⟩
theorem alike_none {x y : PyData} (h : alike x y = true) (e : PyData.eqv x y = false) : x ≠ .none := by
  rintro rfl
  cases y <;> simp [alike] at h
  simp [PyData.eqv] at e
theorem lex_end {y : PyData} {ys : List PyData} : PyProof.Rows.lexLt itemOrd (keyToksAll []) (keyToksAll (y :: ys)) = true := by
  rw [toks_all_cons]
  exact (lex_diff (O := itemOrd) (x := .inl 0) (y := .inl 1) (by simp) (r := []) (t := _)).trans (by rfl)
theorem lex_beg {y : PyData} {ys : List PyData} : PyProof.Rows.lexLt itemOrd (keyToksAll (y :: ys)) (keyToksAll []) = false := by
  rw [toks_all_cons]
  exact (lex_diff (O := itemOrd) (x := .inl 1) (y := .inl 0) (by simp) (t := []) (r := _)).trans (by rfl)
theorem ltRun_mix : ∀ (xs ys : List PyData) {A : Around} {s : Shared} {vs ws : List Value} {as bs : List Addr}, ReadsAll s.heap vs xs as → ReadsAll s.heap ws ys bs → mixD xs ys = true → A.units + min (PyData.depthAll xs) (PyData.depthAll ys) < cLine →
    LtRun A s (decide (xs.length < ys.length)) (vs.zip ws) (PyProof.Rows.lexLt itemOrd (keyToksAll xs) (keyToksAll ys))
  | [], [], A, s, _, _, _, _, r, t, _, _ => by
    cases r; cases t
    exact .nil
  | [], y :: ys, A, s, _, _, _, _, r, t, _, _ => by
    cases r; cases t
    rw [lex_end]
    exact .nil
  | x :: xs, [], A, s, _, _, _, _, r, t, _, _ => by
    cases r; cases t
    rw [lex_beg]
    exact .nil
  | x :: xs, y :: ys, A, s, _, _, _, _, r, t, h, hu => by
    obtain ⟨h1, h2⟩ := mixD_cons h
    cases r with
    | cons r1 r2 =>
      cases t with
      | cons t1 t2 =>
        have e1 := eqAt_alike x y A s _ _ _ _ r1 t1 h1 (room_head hu)
        rw [List.zip_cons_cons]
        cases q : PyData.eqv x y with
        | true =>
          rw [q] at e1
          rw [dataLt_all_yes h1 q]
          have z := ltRun_mix xs ys r2 t2 (h2 q) (room_tail hu)
          have e : decide ((x :: xs).length < (y :: ys).length) = decide (xs.length < ys.length) := by simp
          rw [e]
          exact .eq e1 z
        | false =>
          rw [q] at e1
          rw [dataLt_all_no h1 q]
          exact .ne e1 (rcLt_alike x y A s _ _ _ _ r1 t1 h1 (alike_none h1 q) (room_head hu))
/-- t < u of data -/
theorem lt_mixed {A : Around} {s : Shared} {a b : Value} {xs ys : List PyData} {as bs : List Addr} (r : Reads s.heap a (.tuple xs) as) (t : Reads s.heap b (.tuple ys) bs) (h : mixD xs ys = true) (hu : A.units + min (PyData.tuple xs).depth (PyData.tuple ys).depth < cLine) :
    Ob.RcOp .Lt A s a b (dataLt (.tuple xs) (.tuple ys)) := by
  cases r with
  | @tuple l o vs n _ as₁ h1 h2 h3 h4 =>
    cases t with
    | @tuple l' o' ws n' _ bs₁ k1 k2 k3 k4 =>
      have n1 : vs.size = xs.length := by simpa using ReadsAll.length _ _ _ h4
      have n2 : ws.size = ys.length := by simpa using ReadsAll.length _ _ _ k4
      have z := ltRun_mix xs ys h4 k4 h (A := A.in1) (room_in hu)
      rw [← n1, ← n2] at z
      exact ltTup_op ⟨_, h1, h2, _, h3⟩ ⟨_, k1, k2, _, k3⟩ (room_here hu) z
end MP

set_option linter.all false
set_option autoImplicit false
set_option Elab.async false
set_option maxRecDepth 100000
set_option maxHeartbeats 4000000
namespace MP
open PySem L2 PySem.Spec PyProof.Rows
/-! ### a tuple times 0, times 1 -/
section
variable {l : Addr} {ws : Array Value} {n : Nat} {dd : Option Addr} {sl : Array (Option Value)} {u : Tok}
theorem times_none (ne : ws.isEmpty = false) : Meets (Builtin.«tuple.__mul__» ⟨[.ref l, .int 0 u], []⟩) (fun _ R s => s.heap.get? l = some { cls := .type "tuple", dict := dd, data := .seq ws n, slots := sl } ∧
    R (.ok (.ret (Value.ref s.heap.objs.size))) { s with heap := s.heap.push { cls := Value.type "tuple", data := Data.seq #[] }, toks := s.toks }) :=
  .of_wp fun prog w A R s ⟨at_, fin⟩ => by
    obtain ⟨hp, gs, dr, tk, os⟩ := s
    have ix := AutoSeq1.idx_int
    have t1 : (ws.isEmpty || (0 : Int) == 1) = false := by rw [ne]; rfl
    wp_walk using wpAny_loadPart' at_
    repeat (first
      | (refine wpAny_ite_false (decide_eq_false (by decide)) ?_; wp_walk using wpAny_loadPart' at_)
      | (refine wpAny_ite_false (decide_eq_false (by rw [t1]; decide)) ?_; wp_walk using wpAny_loadPart' at_)
      | (refine wpAny_ite_true (decide_eq_true (by simp)) ?_; wp_walk using wpAny_loadPart' at_))
    exact ⟨_, rfl, fin⟩
theorem times_once : Meets (Builtin.«tuple.__mul__» ⟨[.ref l, .int 1 u], []⟩) (fun _ R s => s.heap.get? l = some { cls := .type "tuple", dict := dd, data := .seq ws n, slots := sl } ∧ R (.ok (.ret (.ref l))) s) :=
  .of_wp fun prog w A R s ⟨at_, fin⟩ => by
    obtain ⟨hp, gs, dr, tk, os⟩ := s
    have ix := AutoSeq1.idx_int
    have t1 : (ws.isEmpty || (1 : Int) == 1) = true := by simp
    wp_walk using wpAny_loadPart' at_
    repeat (first
      | (refine wpAny_ite_false (decide_eq_false (by decide)) ?_; wp_walk using wpAny_loadPart' at_)
      | (refine wpAny_ite_true (decide_eq_true (by rw [t1])) ?_; wp_walk using wpAny_loadPart' at_))
    exact ⟨_, rfl, fin⟩
end
/-- what stands at a tuple's place, times 0 or 1 -/
def rFew (K : PySem.W.Frag) : R2 := fun x y H Q => ∃ (l : Addr) (k : Int) (xs : List V), x = .ref l ∧ y = .int k ∧ SqT K H l xs ∧ xs ≠ [] ∧ ((k = 1 ∧ Q (.ref l) H) ∨ (k = 0 ∧ ∀ p, H p = none → Q (.ref p) (upd H p (.tup []))))
theorem op_few {X : Cx} : OpR X (binaryOp .Mult) (rFew X.K) := by
  intro pins s σ H x y v u Q I rx ry h
  obtain ⟨l, k, xs, rfl, rfl, told, some_, cases_⟩ := h
  cases rx
  obtain ⟨t, rfl⟩ := ry
  obtain ⟨ws, same, ⟨⟨cls, dd, data, sl⟩, there, isT, n, isS⟩, -⟩ := I.tuple told
  simp only at isT isS
  subst isT isS
  have full : ws.toArray.isEmpty = false := by
    cases ws with
    | nil => exact absurd (List.eq_nil_of_length_eq_zero same.length) some_
    | cons _ _ => rfl
  rcases cases_ with ⟨rfl, q⟩ | ⟨rfl, q⟩
  · refine wpAny_binaryOp_repeat_ref (T := "tuple") (U := "int") (by decide) ⟨_, there, rfl⟩ (fun z => typeIs_int z 1 t) noFill_tuple_mul F.fills_int_mul F.slot_int_rmul repeat_tuple F.slot_int_index.lookup
      (call_meets F.slot_int_rmul (typeIs_int s 1 t) F.entry_int_rmul (F.args_int_rmul_2 _ _) (int_rmul_tuple 1 t l ws.toArray n dd sl) ⟨there, rfl, ⟨_, there, rfl⟩, ?_⟩)
    exact call_meets F.slot_tuple_mul ⟨_, there, rfl⟩ F.entry_tuple_mul (F.args_tuple_mul_2 _ _) (times_once (ws := ws.toArray)) ⟨there, .ref l, H, I, rfl, q⟩
  · refine wpAny_binaryOp_repeat_ref (T := "tuple") (U := "int") (by decide) ⟨_, there, rfl⟩ (fun z => typeIs_int z 0 t) noFill_tuple_mul F.fills_int_mul F.slot_int_rmul repeat_tuple F.slot_int_index.lookup
      (call_meets F.slot_int_rmul (typeIs_int s 0 t) F.entry_int_rmul (F.args_int_rmul_2 _ _) (int_rmul_tuple 0 t l ws.toArray n dd sl) ⟨there, rfl, ⟨_, there, rfl⟩, ?_⟩)
    refine call_meets F.slot_tuple_mul ⟨_, there, rfl⟩ F.entry_tuple_mul (F.args_tuple_mul_2 _ _) (times_none full) ⟨there, ?_⟩
    refine ⟨.ref s.heap.objs.size, _, I.laid (t' := s.toks) (o := .tup []) (fun _ _ e => Heap.get?_push_of_some _ e) (Nat.le_refl _) ?_, rfl, q _ (I.hok.fresh (Nat.le_refl _))⟩
    exact ⟨Nat.zero_le _, [], .nil, IsTup.new _ _⟩
end MP

set_option linter.all false
set_option autoImplicit false
set_option Elab.async false
set_option maxRecDepth 100000
namespace MP
open PySem L2

/-! ### data -/
section
variable {γ : Gm} {ρ : List Addr} {H : Hp}
mutual
theorem dp_of : ∀ {x : IV} {v : V}, x.plain = true → RepV γ ρ H x v → Dp γ.K H v (toD x)
  | .non, v, _, h => by simp only [RepV] at h; rw [h]; exact .non
  | .bl b, v, _, h => by simp only [RepV] at h; rw [h]; exact .bl b
  | .int b, v, _, h => by simp only [RepV] at h; rw [h]; exact .int b
  | .str b, v, _, h => by simp only [RepV] at h; rw [h]; exact .str b
  | .tup xs, v, p, h => by
    simp only [RepV] at h
    simp only [IV.plain] at p
    obtain ⟨a, vs, rfl, h1, h2⟩ := h
    exact .tup h1.sq (dps_of p h2)
  | .frz _, _, p, _ => by simp [IV.plain] at p
  | .ref _, _, p, _ => by simp [IV.plain] at p
theorem dps_of : ∀ {x : List IV} {v : List V}, IV.plains x = true → RepVs γ ρ H x v → DpAll γ.K H v (toDs x)
  | [], v, _, h => by simp only [RepVs] at h; rw [h]; exact .nil
  | x :: xs, v, p, h => by
    simp only [RepVs] at h
    simp only [IV.plains, Bool.and_eq_true] at p
    obtain ⟨w, ws, rfl, h1, h2⟩ := h
    exact .cons (dp_of p.1 h1) (dps_of p.2 h2)
end
end
mutual
theorem lay_of : ∀ {x : IV}, x.plain = true → (toD x).canLay0 = true
  | .non, _ => rfl
  | .bl _, _ => rfl
  | .int _, _ => rfl
  | .str _, p => by simpa only [toD, PyData.canLay0, IV.plain] using p
  | .tup xs, p => by simp only [toD, PyData.canLay0]; simp only [IV.plain] at p; exact lays_of p
  | .frz _, p => by simp [IV.plain] at p
  | .ref _, p => by simp [IV.plain] at p
theorem lays_of : ∀ {x : List IV}, IV.plains x = true → PyData.canLayAll0 (toDs x) = true
  | [], _ => rfl
  | x :: xs, p => by
    simp only [IV.plains, Bool.and_eq_true] at p
    simp only [toDs, PyData.canLayAll0, Bool.and_eq_true]
    exact ⟨lay_of p.1, lays_of p.2⟩
end
mutual
theorem dep_of : ∀ {x : IV}, x.plain = true → (toD x).depth = x.dep
  | .non, _ => rfl
  | .bl _, _ => rfl
  | .int _, _ => rfl
  | .str _, _ => rfl
  | .tup xs, p => by simp only [toD, PyData.depth, IV.dep]; simp only [IV.plain] at p; rw [deps_of p]
  | .frz _, p => by simp [IV.plain] at p
  | .ref _, p => by simp [IV.plain] at p
theorem deps_of : ∀ {x : List IV}, IV.plains x = true → PyData.depthAll (toDs x) = IV.deps x
  | [], _ => rfl
  | x :: xs, p => by
    simp only [IV.plains, Bool.and_eq_true] at p
    simp only [toDs, PyData.depthAll, IV.deps, dep_of p.1, deps_of p.2]
end
mutual
theorem eqv_of : ∀ {x y : IV}, x.plain = true → y.plain = true → PyData.eqv (toD x) (toD y) = pyEq x y
  | .non, y, _, q => by cases y <;> simp_all [toD, PyData.eqv, pyEq, IV.plain]
  | .bl _, y, _, q => by cases y <;> simp_all [toD, PyData.eqv, pyEq, IV.plain]
  | .int _, y, _, q => by cases y <;> simp_all [toD, PyData.eqv, pyEq, IV.plain]
  | .str _, y, _, q => by cases y <;> simp_all [toD, PyData.eqv, pyEq, IV.plain] <;> rfl
  | .tup xs, y, p, q => by
    cases y with
    | tup ys =>
      simp only [toD, PyData.eqv, pyEq]
      simp only [IV.plain] at p q
      exact eqvs_of p q
    | _ => simp_all [toD, PyData.eqv, pyEq, IV.plain]
  | .frz _, _, p, _ => by simp [IV.plain] at p
  | .ref _, _, p, _ => by simp [IV.plain] at p
theorem eqvs_of : ∀ {x y : List IV}, IV.plains x = true → IV.plains y = true → PyData.eqvAll (toDs x) (toDs y) = pyEqs x y
  | [], [], _, _ => rfl
  | [], _ :: _, _, _ => by simp [toDs, PyData.eqvAll, pyEqs]
  | _ :: _, [], _, _ => by simp [toDs, PyData.eqvAll, pyEqs]
  | x :: xs, y :: ys, p, q => by
    simp only [IV.plains, Bool.and_eq_true] at p q
    simp only [toDs, PyData.eqvAll, pyEqs, eqv_of p.1 q.1, eqvs_of p.2 q.2]
end
theorem plains_int : ∀ ns : List Int, IV.plains (ns.map .int) = true
  | [] => rfl
  | n :: ns => by simp only [List.map_cons, IV.plains, IV.plain, Bool.true_and]; exact plains_int ns
def Cont.toD : Cont → PyData
  | .v x => MP.toD x
  | .l xs => .list (toDs xs)
def Cont.plain : Cont → Bool
  | .v x => x.plain
  | .l xs => IV.plains xs
theorem cont_plain {st : Store} {x : TV} {a : Cont} (h : cont st x = some a) : a.plain = true := by
  unfold cont at h
  split at h
  · split at h
    · split at h
      · cases h; assumption
      · cases h
    · cases h
  · cases h; exact plains_int _
  · split at h
    · cases h; assumption
    · cases h
  · split at h
    · cases h; assumption
    · cases h
  · cases h
theorem sizeLine_n : sizeLine = lineN := by rw [sizeLine_eq]; rfl
section
variable {γ : Gm} {ρ : List Addr} {st : Store} {H : Hp}
theorem cont_dp {x : TV} {v : V} {a : Cont} (R : Rep γ ρ st H) (T : RepT γ ρ H x v) (h : cont st x = some a) : Dp γ.K H v a.toD := by
  have hp := cont_plain h
  unfold cont at h
  split at h
  · split at h
    · split at h
      · cases h
        rename_i r xs e _
        simp only [RepT, RepV] at T
        obtain ⟨a, ha, rfl⟩ := T
        obtain ⟨b, hb, vs, e1, e2⟩ := R.ob _ _ e
        rw [ha] at hb; cases hb
        exact .lst (SqL.of e1) (dps_of hp e2)
      · cases h
    · cases h
  · cases h
    simp only [RepT, RepV] at T
    obtain ⟨a, rfl, h1⟩ := T
    exact .lst h1.sq (dps_of (plains_int _) (RepVs.ints (γ := γ) (ρ := ρ) _))
  · split at h
    · cases h
      exact dp_of hp T
    · cases h
  · split at h
    · cases h
      obtain ⟨a, vs, rfl, h1, h2, h3⟩ := T
      exact .lst (SqL.of h1) (dps_of hp h3)
    · cases h
  · cases h
theorem Cont.eqv_of {a b : Cont} (p : a.plain = true) (q : b.plain = true) : PyData.eqv a.toD b.toD = a.eq b := by
  cases a <;> cases b <;> simp only [Cont.plain] at p q <;> simp only [Cont.toD, Cont.eq]
  · exact MP.eqv_of p q
  · rename_i x xs; cases x <;> simp [MP.toD, PyData.eqv] <;> simp [IV.plain] at p
  · rename_i xs x; cases x <;> simp [MP.toD, PyData.eqv] <;> simp [IV.plain] at q
  · simp only [PyData.eqv]; exact eqvs_of p q
theorem Cont.lay_of {a : Cont} (p : a.plain = true) : a.toD.canLay0 = true := by
  cases a <;> simp only [Cont.plain] at p <;> simp only [Cont.toD]
  · exact MP.lay_of p
  · simp only [PyData.canLay0]; exact lays_of p
theorem Cont.dep_of {a : Cont} (p : a.plain = true) : a.toD.depth = a.dep := by
  cases a <;> simp only [Cont.plain] at p <;> simp only [Cont.toD, Cont.dep]
  · exact MP.dep_of p
  · simp only [PyData.depth]; rw [deps_of p]
/-- a list's items stand -/
theorem itemsL_sq {x : TV} {v : V} {xs : List IV} (R : Rep γ ρ st H) (T : RepT γ ρ H x v) (h : itemsL st x = some xs) : ∃ a vs, v = .ref a ∧ SqL γ.K H a vs ∧ RepVs γ ρ H xs vs := by
  unfold itemsL at h
  split at h
  · split at h
    · cases h
      rename_i r xs e
      simp only [RepT, RepV] at T
      obtain ⟨a, ha, rfl⟩ := T
      obtain ⟨b, hb, vs, e1, e2⟩ := R.ob _ _ e
      rw [ha] at hb; cases hb
      exact ⟨a, vs, rfl, SqL.of e1, e2⟩
    · cases h
  · cases h
    simp only [RepT, RepV] at T
    obtain ⟨a, rfl, h1⟩ := T
    exact ⟨a, _, rfl, h1.sq, RepVs.ints _⟩
  · cases h
    obtain ⟨a, vs, rfl, h1, h2, h3⟩ := T
    exact ⟨a, vs, rfl, SqL.of h1, h3⟩
  · cases h
theorem itemsM_at {x : TV} {v : V} {xs : List IV} (R : Rep γ ρ st H) (T : RepT γ ρ H x v) (h : itemsM st x = some xs) : ∃ a vs, v = .ref a ∧ H a = some (.lst vs) ∧ RepVs γ ρ H xs vs := by
  unfold itemsM at h
  split at h
  · split at h
    · cases h
      rename_i r xs e
      simp only [RepT, RepV] at T
      obtain ⟨a, ha, rfl⟩ := T
      obtain ⟨b, hb, vs, e1, e2⟩ := R.ob _ _ e
      rw [ha] at hb; cases hb
      exact ⟨a, vs, rfl, e1, e2⟩
    · cases h
  · cases h
    obtain ⟨a, vs, rfl, h1, h2, h3⟩ := T
    exact ⟨a, vs, rfl, h1, h3⟩
  · cases h
theorem itemsLT_sq {x : TV} {v : V} {xs : List IV} (R : Rep γ ρ st H) (T : RepT γ ρ H x v) (h : itemsLT st x = some xs) : ∃ a vs, v = .ref a ∧ (SqL γ.K H a vs ∨ SqT γ.K H a vs) ∧ RepVs γ ρ H xs vs := by
  unfold itemsLT at h
  split at h
  · cases h
    simp only [RepT, RepV] at T
    obtain ⟨a, vs, rfl, h1, h2⟩ := T
    exact ⟨a, vs, rfl, .inr h1.sq, h2⟩
  · obtain ⟨a, vs, e, h1, h2⟩ := itemsL_sq R T h
    exact ⟨a, vs, e, .inl h1, h2⟩
/-- a new list that nobody holds -/
theorem Aft.newL {xs : List IV} {vs : List V} {Q : VK} {E : XK} (h : Aft γ ρ H (.ok (.l xs) st) Q E) (R : Rep γ ρ st H) (r : RepVs γ ρ H xs vs) : ∀ p, H p = none → Q (.ref p) (upd H p (.lst vs)) := by
  intro p hp
  have e : Ext ρ H ρ (upd H p (.lst vs)) := Ext.laid hp
  have n : p ∉ ρ := fun z => R.tracked z hp
  refine h ρ _ (.ref p) e ⟨R.len, R.nd, fun i o q => ?_, R.tb.ext fun b o q => by rw [upd_ne (ne_of_none q hp)]; exact q⟩ ⟨p, vs, rfl, upd_same, n, r.mono R e⟩ (fun a ha => ?_)
  · obtain ⟨a, h1, h2⟩ := R.ob i o q
    refine ⟨a, h1, ?_⟩
    have na : a ≠ p := fun z => n (z ▸ List.mem_of_getElem? h1)
    cases o with
    | lst xs => obtain ⟨ws, h3, h4⟩ := h2; exact ⟨ws, by rw [upd_ne na]; exact h3, h4.mono R e⟩
    | dic kvs => obtain ⟨ks, h3, h4⟩ := h2; exact ⟨ks, by rw [upd_ne na]; exact h3, h4.mono R e⟩
    | dk kvs => obtain ⟨ks, h3, h4⟩ := h2; exact ⟨ks, by rw [upd_ne na]; exact h3, h4.mono R e⟩
    | ins c fs =>
      obtain ⟨C, dx, flds, gs, q1, q2, q3, q4, q5, q6, q7, q8⟩ := h2
      refine ⟨C, dx, flds, gs, q1, by rw [upd_ne na]; exact q2, q3, q4, q5, q6, q7, fun j nm hj => ⟨fun x hx => ?_, (q8 j nm hj).2⟩⟩
      obtain ⟨w, w1, w2⟩ := (q8 j nm hj).1 x hx
      exact ⟨w, w1, w2.mono R e⟩
  · simp only [ownA, List.mem_singleton] at ha
    rw [ha]; exact hp
theorem RepO.mono {ρ' : List Addr} {H' : Hp} (R : Rep γ ρ st H) (e : Ext ρ H ρ' H') {a : Addr} {o : IO} (ha : H' a = H a) (h : RepO γ ρ H a o) : RepO γ ρ' H' a o := by
  cases o with
  | lst xs => obtain ⟨ws, h3, h4⟩ := h; exact ⟨ws, by rw [ha]; exact h3, h4.mono R e⟩
  | dic kvs => obtain ⟨ks, h3, h4⟩ := h; exact ⟨ks, by rw [ha]; exact h3, h4.mono R e⟩
  | dk kvs => obtain ⟨ks, h3, h4⟩ := h; exact ⟨ks, by rw [ha]; exact h3, h4.mono R e⟩
  | ins c fs =>
    obtain ⟨C, dx, flds, gs, q1, q2, q3, q4, q5, q6, q7, q8⟩ := h
    refine ⟨C, dx, flds, gs, q1, by rw [ha]; exact q2, q3, q4, q5, q6, q7, fun j nm hj => ⟨fun x hx => ?_, (q8 j nm hj).2⟩⟩
    obtain ⟨w, w1, w2⟩ := (q8 j nm hj).1 x hx
    exact ⟨w, w1, w2.mono R e⟩
/-- something untracked by the store is laid -/
theorem Rep.laid (R : Rep γ ρ st H) {p : Addr} {o : HO} (hp : H p = none) : Rep γ ρ st (upd H p o) := by
  have n : p ∉ ρ := fun z => R.tracked z hp
  refine ⟨R.len, R.nd, fun i o q => ?_, R.tb.ext fun b o q => by rw [upd_ne (ne_of_none q hp)]; exact q⟩
  obtain ⟨a, h1, h2⟩ := R.ob i o q
  exact ⟨a, h1, RepO.mono R (Ext.laid hp) (upd_ne fun z => n (z ▸ List.mem_of_getElem? h1)) h2⟩
/-- a new tuple -/
theorem Aft.newT {xs : List IV} {vs : List V} {Q : VK} {E : XK} (h : Aft γ ρ H (.ok (.v (.tup xs)) st) Q E) (R : Rep γ ρ st H) (r : RepVs γ ρ H xs vs) : ∀ p, H p = none → Q (.ref p) (upd H p (.tup vs)) := by
  intro p hp
  have e : Ext ρ H ρ (upd H p (.tup vs)) := Ext.laid hp
  refine h ρ _ (.ref p) e (R.laid hp) ?_ (fun a ha => by simp [ownA] at ha)
  simp only [RepT, RepV]
  exact ⟨p, vs, rfl, TupAt.of upd_same, r.mono R e⟩
theorem Aft.oldT {xs : List IV} {vs : List V} {a : Addr} {Q : VK} {E : XK} (h : Aft γ ρ H (.ok (.v (.tup xs)) st) Q E) (R : Rep γ ρ st H) (t : TupAt (keyT xs) γ.K H a vs) (r : RepVs γ ρ H xs vs) : Q (.ref a) H :=
  h.now R (by simp only [RepT, RepV]; exact ⟨a, vs, rfl, t, r⟩) (fun a ha => by simp [ownA] at ha)
theorem Aft.val {x : IV} {v : V} {Q : VK} {E : XK} (h : Aft γ ρ H (.ok (.v x) st) Q E) (R : Rep γ ρ st H) (r : RepV γ ρ H x v) : Q v H :=
  h.now R r (fun a ha => by simp [ownA] at ha)
theorem RepVs.nil {xs : List IV} {vs : List V} (r : RepVs γ ρ H xs vs) (h : vs = []) : xs = [] := by
  have := r.length
  rw [h] at this
  exact List.eq_nil_of_length_eq_zero this.symm
theorem RepVs.rep {xs : List IV} {vs : List V} (r : RepVs γ ρ H xs vs) : ∀ n, RepVs γ ρ H (List.replicate n xs).flatten (List.replicate n vs).flatten
  | 0 => by simp [RepVs]
  | n + 1 => by rw [List.replicate_succ, List.replicate_succ, List.flatten_cons, List.flatten_cons]; exact r.app (RepVs.rep r n)
theorem cut_rep {xs : List IV} {vs : List V} (r : RepVs γ ρ H xs vs) (lo hi : Option Int) : RepVs γ ρ H (cut xs lo hi) (cutV vs lo hi) := by
  have e : sIxN = HT.sIx := by
    funext n d o
    cases o <;> rfl
  unfold cut cutV
  rw [e, ← r.length]
  exact (r.drop _).take _
end

/-! ### the operators -/
def rBin (γ : Gm) (op : BOp) : R2 := fun v w H Q => ∃ ρ st x y E, Rep γ ρ st H ∧ RepT γ ρ H x v ∧ RepT γ ρ H y w ∧ Aft γ ρ H (binM op x y st) Q E
def bAST : BOp → Operator
  | .add => .Add | .sub => .Sub | .mul => .Mult | .fdiv => .FloorDiv | .mod => .Mod | .pow => .Pow
section
variable {X : Cx} {γ : Gm}
theorem small_lt {i : Int} (h : small i = true) : -(2 ^ 64) < i ∧ i < 2 ^ 64 := by
  unfold small at h
  simp only [Bool.and_eq_true, decide_eq_true_eq] at h
  omega
theorem opr_bin (hK : X.K = γ.K) (op : BOp) : OpR X (binaryOp (bAST op)) (rBin γ op) := by
  intro pins s σ H x y v u Q I rx ry h
  obtain ⟨ρ, st, tx, ty, E, R, T1, T2, A⟩ := h
  unfold binM at A
  split at A
  · simp only [RepT, RepV] at T1 T2; subst T1 T2
    exact op_add pins s σ H _ _ v u Q I rx ry ⟨_, _, rfl, rfl, A.val R rfl⟩
  · simp only [RepT, RepV] at T1 T2; subst T1 T2
    split at A
    · rename_i hl
      exact op_add_str pins s σ H _ _ v u Q I rx ry ⟨_, _, rfl, rfl, by rw [sizeLine_n]; exact hl, A.val R rfl⟩
    · exact A.elim
  · simp only [RepT, RepV] at T1 T2
    obtain ⟨a, vs, rfl, t1, r1⟩ := T1
    obtain ⟨b, ws, rfl, t2, r2⟩ := T2
    split at A
    · rename_i hl
      refine op_catA pins s σ H _ _ v u Q I rx ry ⟨a, b, vs, ws, rfl, rfl, hK ▸ t1.sq, hK ▸ t2.sq, by rw [sizeLine_n, r1.length, r2.length]; exact hl, fun e => ?_, fun _ e => ?_, fun _ _ => ?_⟩
      · obtain rfl := r1.nil e
        exact A.oldT R t2 r2
      · obtain rfl := r2.nil e
        rw [List.append_nil] at A
        exact A.oldT R t1 r1
      · exact A.newT R (r1.app r2)
    · exact A.elim
  · split at A
    · rename_i xs ys e1 e2
      obtain ⟨a, vs, rfl, h1, r1⟩ := itemsM_at R T1 e1
      obtain ⟨b, ws, rfl, h2, r2⟩ := itemsM_at R T2 e2
      split at A
      · rename_i hl
        exact op_cat pins s σ H _ _ v u Q I rx ry ⟨a, b, vs, ws, rfl, rfl, h1, h2, by rw [sizeLine_n, r1.length, r2.length]; exact hl, A.newL R (r1.app r2)⟩
      · exact A.elim
    · exact A.elim
  · simp only [RepT, RepV] at T1 T2; subst T1 T2
    exact op_sub pins s σ H _ _ v u Q I rx ry ⟨_, _, rfl, rfl, A.val R rfl⟩
  · simp only [RepT, RepV] at T1 T2; subst T1 T2
    split at A
    · rename_i hs
      refine op_mul pins s σ H _ _ v u Q I rx ry ⟨_, _, rfl, rfl, ?_, A.val R rfl⟩
      rw [Bool.or_eq_true] at hs
      exact hs.elim (fun h => .inl (small_lt h)) (fun h => .inr (small_lt h))
    · exact A.elim
  · obtain ⟨a, vs, rfl, h1, h2, h3⟩ := T1
    simp only [RepT, RepV] at T2; subst T2
    split at A
    · rename_i hl
      refine op_rep pins s σ H _ _ v u Q I rx ry ⟨a, _, vs, rfl, rfl, h1, by omega, by omega, ?_, A.newL R (h3.rep _)⟩
      rw [h3.length, sizeLine_eq]
      have h2 : Int.toNat ‹Int› ≤ 1000 := by omega
      have := Nat.mul_le_mul hl.2.2 h2
      omega
    · exact A.elim
  · simp only [RepT, RepV] at T1 T2
    obtain ⟨a, vs, rfl, t1, r1⟩ := T1
    subst T2
    split at A
    · rename_i hl
      have some_ : vs ≠ [] := fun e => by
        have := r1.length
        rw [e] at this
        have h2 := hl.2.2.2
        rw [← this] at h2
        exact absurd h2 (by simp)
      obtain rfl | rfl | many : ‹Int› = 0 ∨ ‹Int› = 1 ∨ 2 ≤ ‹Int› := by omega
      · exact op_few pins s σ H _ _ v u Q I rx ry ⟨a, _, vs, rfl, rfl, hK ▸ t1.sq, some_, .inr ⟨rfl, A.newT R (r1.rep 0)⟩⟩
      · refine op_few pins s σ H _ _ v u Q I rx ry ⟨a, _, vs, rfl, rfl, hK ▸ t1.sq, some_, .inl ⟨rfl, ?_⟩⟩
        simp only [show Int.toNat 1 = 1 from rfl, List.replicate_succ, List.replicate_zero, List.flatten_cons, List.flatten_nil, List.append_nil] at A
        exact A.val R ⟨a, vs, rfl, t1, r1⟩
      · exact op_repT pins s σ H _ _ v u Q I rx ry ⟨a, _, vs, rfl, rfl, hK ▸ t1.sq, some_, many, hl.2.1, by rw [r1.length]; exact hl.2.2.1, A.newT R (r1.rep _)⟩
    · exact A.elim
  · simp only [RepT, RepV] at T1 T2; subst T1 T2
    split at A
    · rename_i hs
      exact op_fdiv pins s σ H _ _ v u Q I rx ry ⟨_, _, rfl, rfl, hs, A.val R rfl⟩
    · exact A.elim
  · simp only [RepT, RepV] at T1 T2; subst T1 T2
    split at A
    · rename_i hs
      exact op_mod pins s σ H _ _ v u Q I rx ry ⟨_, _, rfl, rfl, hs, A.val R rfl⟩
    · exact A.elim
  · simp only [RepT, RepV] at T1 T2; subst T1 T2
    split at A
    · rename_i hs
      refine op_pow pins s σ H _ _ v u Q I rx ry ⟨_, _, rfl, rfl, ⟨hs.1, by omega, ?_⟩, A.val R rfl⟩
      have := small_lt hs.2.2
      omega
    · exact A.elim
  · exact A.elim

mutual
theorem same_alike : ∀ {x y : IV}, sameF x y = true → PySem.W.alike (toD x) (toD y) = true
  | .bl _, y, h => by cases y <;> first | rfl | simp [sameF] at h
  | .int _, y, h => by cases y <;> first | rfl | simp [sameF] at h
  | .str _, y, h => by cases y <;> first | rfl | simp [sameF] at h
  | .tup xs, y, h => by
    cases y <;> first | (simp [sameF] at h; done) | skip
    simp only [sameF] at h
    simp only [toD, PySem.W.alike]
    exact sames_alike h
  | .non, y, h => by simp [sameF] at h
  | .frz _, y, h => by simp [sameF] at h
  | .ref _, y, h => by simp [sameF] at h
theorem sames_alike : ∀ {x y : List IV}, sameFs x y = true → PySem.W.alikeAll (toDs x) (toDs y) = true
  | [], _, _ => by simp [toDs, PySem.W.alikeAll]
  | x :: xs, [], h => by simp [sameFs] at h
  | x :: xs, y :: ys, h => by
    simp only [sameFs, Bool.and_eq_true] at h
    simp only [toDs, PySem.W.alikeAll, Bool.and_eq_true]
    exact ⟨same_alike h.1, sames_alike h.2⟩
end
theorem mix_of : ∀ {xs ys : List IV}, IV.plains xs = true → IV.plains ys = true → mixTs xs ys = true → mixD (toDs xs) (toDs ys) = true
  | [], _, _, _, _ => by simp [toDs, mixD]
  | x :: xs, [], _, _, _ => by simp [toDs, mixD]
  | x :: xs, y :: ys, p, q, h => by
    simp only [IV.plains, Bool.and_eq_true] at p q
    simp only [mixTs, Bool.and_eq_true] at h
    simp only [toDs, mixD, Bool.and_eq_true, eqv_of p.1 q.1]
    refine ⟨same_alike h.1, ?_⟩
    cases e : pyEq x y with
    | false => rfl
    | true =>
      rw [e] at h
      simpa using mix_of p.2 q.2 (by simpa using h.2)
/-! ### comparisons -/
def rCmpB (γ : Gm) (op : COp) : R2 := fun v w H Q => ∃ ρ st x y E, Rep γ ρ st H ∧ RepT γ ρ H x v ∧ RepT γ ρ H y w ∧ Aft γ ρ H (cmpM op x y st) Q E
def cAST : COp → CmpOp
  | .eq => .Eq | .ne => .NotEq | .lt => .Lt | .le => .LtE | .gt => .Gt | .ge => .GtE | .inn => .In | .nin => .NotIn
theorem eqM_run {op : CmpOp} {neg : Bool} (hop : op = if neg then .NotEq else .Eq) (hK : X.K = γ.K) (hu : X.A.units + 100 < cLine) {pins : List (Addr × Obj)} {s : Shared} {σ : L2.St} {H : Hp} {v w : V} {u u' : Value} {Q : VK} {ρ : List Addr} {st : Store} {x y : TV} {b : Bool}
    (I : Inv X pins σ H s) (rx : RelV v u) (ry : RelV w u') (R : Rep γ ρ st H) (T1 : RepT γ ρ H x v) (T2 : RepT γ ρ H y w) (h : eqM x y st = some b) (q : Q (.bl (b ^^ neg)) H) :
    wpAny (model X.prog X.w) X.A (compareOp op u u') (EP X pins σ Q) X.xe s := by
  unfold eqM at h
  split at h
  · rename_i a c ea ec
    split at h
    · rename_i hd
      cases h
      have p1 := cont_plain ea
      have p2 := cont_plain ec
      have d1 := cont_dp R T1 ea
      have d2 := cont_dp R T2 ec
      rw [← hK] at d1 d2
      obtain ⟨as, r1⟩ := Dp.reads I _ _ _ d1 rx
      obtain ⟨bs, r2⟩ := Dp.reads I _ _ _ d2 ry
      have hm : X.A.units + min (PyData.depth a.toD) (PyData.depth c.toD) < cLine := by
        rw [Cont.dep_of p1, Cont.dep_of p2]; omega
      have e := Cont.eqv_of p1 p2
      subst hop
      cases neg with
      | false => exact SeqAt.compareEq_reads r1 r2 (Cont.lay_of p1) (Cont.lay_of p2) hm ⟨.bl _, H, I, by rw [e]; rfl, by simpa using q⟩
      | true => exact SeqAt.compareNe_reads r1 r2 (Cont.lay_of p1) (Cont.lay_of p2) hm ⟨.bl _, H, I, by rw [e]; rfl, by simpa using q⟩
    · cases h
  · cases h
theorem anyEq_of {x : IV} (hx : x.plain = true) : ∀ {ys : List IV}, IV.plains ys = true → ((toDs ys).any fun y => PyData.eqv y (toD x)) = anyEq x ys
  | [], _ => rfl
  | y :: ys, p => by
    simp only [IV.plains, Bool.and_eq_true] at p
    simp only [toDs, List.any_cons, anyEq, eqv_of p.1 hx, anyEq_of hx p.2]
theorem Dp.units {n : Nat} {a b : Nat} (h : b ≤ 60) (hu : n + 100 < cLine) : n + 1 + min a b < cLine := by omega
theorem inM_run {op : CmpOp} {neg : Bool} (hop : op = if neg then .NotIn else .In) (hK : X.K = γ.K) (hu : X.A.units + 100 < cLine) {pins : List (Addr × Obj)} {s : Shared} {σ : L2.St} {H : Hp} {v w : V} {u u' : Value} {Q : VK} {ρ : List Addr} {st : Store} {x y : TV} {b : Bool}
    (I : Inv X pins σ H s) (rx : RelV v u) (ry : RelV w u') (R : Rep γ ρ st H) (T1 : RepT γ ρ H x v) (T2 : RepT γ ρ H y w) (h : inM x y st = some b) (q : Q (.bl (b ^^ neg)) H) :
    wpAny (model X.prog X.w) X.A (compareOp op u u') (EP X pins σ Q) X.xe s := by
  unfold inM at h
  split at h
  · cases h
    simp only [RepT, RepV] at T1 T2; subst T1 T2 hop
    cases neg with
    | false => exact op_in_str pins s σ H _ _ u u' Q I rx ry ⟨_, _, rfl, rfl, by simpa using q⟩
    | true => exact op_notin_str pins s σ H _ _ u u' Q I rx ry ⟨_, _, rfl, rfl, by simpa using q⟩
  · rename_i x _
    split at h
    · rename_i hp
      simp only [Bool.and_eq_true, decide_eq_true_eq] at hp
      have d1 := dp_of hp.1 (show RepV γ ρ H x v from T1)
      rw [← hK] at d1
      obtain ⟨as, r1⟩ := Dp.reads I _ _ _ d1 rx
      have hl := lay_of hp.1
      have hdx : (toD x).depth ≤ 60 := by rw [dep_of hp.1]; exact hp.2
      split at h
      · rename_i ys ey
        split at h
        · rename_i py
          cases h
          obtain ⟨a, vs, rfl, hs, rv⟩ := itemsLT_sq R T2 ey
          have hany := anyEq_of hp.1 py
          rcases hs with hs | hs
          · have d2 : Dp X.K H (.ref a) (.list (toDs ys)) := by rw [hK]; exact .lst hs (dps_of py rv)
            obtain ⟨bs, r2⟩ := Dp.reads I _ _ _ d2 ry
            subst hop
            cases neg with
            | false => exact SeqAt.in_list_reads r2 r1 (lays_of py) hl (Dp.units hdx hu) ⟨.bl _, H, I, by rw [hany]; rfl, by simpa using q⟩
            | true => exact SeqAt.notIn_list_reads r2 r1 (lays_of py) hl (Dp.units hdx hu) ⟨.bl _, H, I, by rw [hany]; rfl, by simpa using q⟩
          · have d2 : Dp X.K H (.ref a) (.tuple (toDs ys)) := by rw [hK]; exact .tup hs (dps_of py rv)
            obtain ⟨bs, r2⟩ := Dp.reads I _ _ _ d2 ry
            subst hop
            cases neg with
            | false => exact SeqAt.in_tuple_reads r2 r1 (lays_of py) hl (Dp.units hdx hu) ⟨.bl _, H, I, by rw [hany]; rfl, by simpa using q⟩
            | true => exact SeqAt.notIn_tuple_reads r2 r1 (lays_of py) hl (Dp.units hdx hu) ⟨.bl _, H, I, by rw [hany]; rfl, by simpa using q⟩
        · cases h
      · cases h
    · cases h
  · cases h
theorem opr_cmp (hK : X.K = γ.K) (hu : X.A.units + 100 < cLine) (op : COp) : OpR X (compareOp (cAST op)) (rCmpB γ op) := by
  intro pins s σ H v w u u' Q I rx ry h
  obtain ⟨ρ, st, x, y, E, R, T1, T2, A⟩ := h
  have ord : ∀ {f : Int → Int → Bool}, Aft γ ρ H (ordM f x y st) Q E → ∃ i j, v = .int i ∧ w = .int j ∧ Q (.bl (f i j)) H := fun {f} A => by
    unfold ordM at A
    split at A
    · simp only [RepT, RepV] at T1 T2; subst T1 T2
      exact ⟨_, _, rfl, rfl, A.val R rfl⟩
    · exact A.elim
  cases op <;> simp only [cmpM] at A
  · split at A
    · rename_i b e
      exact eqM_run (neg := false) rfl hK hu I rx ry R T1 T2 e (by simpa using A.val R rfl)
    · exact A.elim
  · split at A
    · rename_i b e
      exact eqM_run (neg := true) rfl hK hu I rx ry R T1 T2 e (by simpa using A.val R rfl)
    · exact A.elim
  · unfold ltM at A
    split at A
    · simp only [RepT, RepV] at T1 T2; subst T1 T2
      exact op_lt pins s σ H _ _ u u' Q I rx ry ⟨_, _, rfl, rfl, A.val R rfl⟩
    · rename_i xs ys
      simp only [RepT, RepV] at T1 T2
      obtain ⟨a, vs, rfl, h1, h2⟩ := T1
      obtain ⟨b, ws, rfl, k1, k2⟩ := T2
      split at A
      · rename_i ns ms e1 e2
        rw [h2.asInts e1] at h1
        rw [k2.asInts e2] at k1
        exact op_ltT (by omega) pins s σ H _ _ u u' Q I rx ry ⟨a, b, ns, ms, rfl, rfl, hK ▸ h1.sq, hK ▸ k1.sq, A.val R rfl⟩
      · split at A
        · rename_i hm
          simp only [Bool.and_eq_true, decide_eq_true_eq] at hm
          obtain ⟨⟨⟨m1, m2⟩, m3⟩, m4⟩ := hm
          have d1 : Dp X.K H (.ref a) (.tuple (toDs xs)) := by rw [hK]; exact .tup h1.sq (dps_of m2 h2)
          have d2 : Dp X.K H (.ref b) (.tuple (toDs ys)) := by rw [hK]; exact .tup k1.sq (dps_of m3 k2)
          obtain ⟨as, r1⟩ := Dp.reads I _ _ _ d1 rx
          obtain ⟨bs, r2⟩ := Dp.reads I _ _ _ d2 ry
          exact lt_mixed r1 r2 (mix_of m2 m3 m1) (by simp only [PyData.depth]; rw [deps_of m2]; omega) _ _ _ _ ⟨.bl _, H, I, rfl, A.val R rfl⟩
        · exact A.elim
    · exact A.elim
  · exact op_le pins s σ H _ _ u u' Q I rx ry (ord A)
  · exact op_gt pins s σ H _ _ u u' Q I rx ry (ord A)
  · exact op_ge pins s σ H _ _ u u' Q I rx ry (ord A)
  · split at A
    · rename_i b e
      exact inM_run (neg := false) rfl hK hu I rx ry R T1 T2 e (by simpa using A.val R rfl)
    · exact A.elim
  · split at A
    · rename_i b e
      exact inM_run (neg := true) rfl hK hu I rx ry R T1 T2 e (by simpa using A.val R rfl)
    · exact A.elim

/-! ### subscripts, slices -/
def rIdx (γ : Gm) : R2 := fun v w H Q => ∃ ρ st x y E, Rep γ ρ st H ∧ RepT γ ρ H x v ∧ RepT γ ρ H y w ∧ Aft γ ρ H (idxM x y st) Q E
theorem atN_ixN {n : Nat} {i : Int} : atN n i = ixN n i := rfl
theorem ixr_idx (hK : X.K = γ.K) : IxR X (rIdx γ) := by
  intro value slice pins s σ H v w u u' Q I rx ry h hs
  obtain ⟨ρ, st, x, y, E, R, T1, T2, A⟩ := h
  unfold idxM at A
  split at A
  · simp only [RepT, RepV] at T1 T2; subst T1 T2
    split at A
    · rename_i hl
      split at A
      · rename_i k ek
        split at A
        · rename_i c ec
          refine ix_str value slice pins s σ H _ _ u u' Q I rx ry ⟨_, _, c, rfl, rfl, by rw [sizeLine_n]; exact hl, ?_, A.val R rfl⟩ hs
          unfold atI
          rw [Array.length_toList]
          rw [atN_ixN] at ek
          show (ixN (Str.length _) _).bind _ = _
          rw [ek]
          simpa using ec
        · exact A.elim
      · exact A.elim
    · exact A.elim
  · rename_i tx ty _
    split at A
    · rename_i xs i ei _
      split at A
      · rename_i k ek
        split at A
        · rename_i z ez
          obtain ⟨a, vs, rfl, hsq, rv⟩ := itemsLT_sq R T1 ei
          simp only [RepT, RepV] at T2; subst T2
          obtain ⟨wv, hw, rw_⟩ := rv.get ez
          have hat : atI vs i = some wv := by
            unfold atI
            rw [rv.length, ← atN_ixN, ek]
            exact hw
          have hq := A.val R rw_
          rcases hsq with hsq | hsq
          · exact ix_list value slice pins s σ H _ _ u u' Q I rx ry ⟨a, vs, i, wv, rfl, rfl, hK ▸ hsq, hat, hq⟩ hs
          · exact ix_tup value slice pins s σ H _ _ u u' Q I rx ry ⟨a, vs, i, wv, rfl, rfl, hK ▸ hsq, hat, hq⟩ hs
        · exact A.elim
      · exact A.elim
    · exact A.elim
  · exact A.elim
theorem sIx_eq : sIxN = HT.sIx := by
  funext n d o
  cases o <;> rfl
def rSlc (γ : Gm) : V → Option Int → Option Int → Hp → VK → Prop := fun v lo hi H Q => ∃ ρ st x E, Rep γ ρ st H ∧ RepT γ ρ H x v ∧ Aft γ ρ H (slM x lo hi st) Q E
theorem slr_slc (hK : X.K = γ.K) : SlR X (rSlc γ) := by
  intro pins s σ H v u vl vu lo hi sl Q I rx hs pl pu h
  obtain ⟨ρ, st, x, E, R, T, A⟩ := h
  unfold slM at A
  split at A
  · simp only [RepT, RepV] at T
    obtain ⟨a, vs, rfl, t, r⟩ := T
    refine sl_tupA pins s σ H _ u vl vu lo hi sl Q I rx hs pl pu ⟨a, vs, rfl, hK ▸ t.sq, fun e => ?_, fun _ => A.newT R (cut_rep r lo hi)⟩
    rename_i xs
    have ec : cut xs lo hi = xs := by
      unfold cut
      rw [sIx_eq, ← r.length, e.1, e.2, List.drop_zero, Nat.sub_zero, r.length, List.take_length]
    rw [ec] at A
    exact A.oldT R t r
  · simp only [RepT, RepV] at T; subst T
    split at A
    · rename_i hl
      refine sl_str pins s σ H _ u vl vu lo hi sl Q I rx hs pl pu ⟨_, rfl, by rw [sizeLine_n]; exact hl, ?_⟩
      have := A.val R (v := .str (cutS _ lo hi)) (by
        simp only [RepV, V.str.injEq]
        unfold cutS cut
        rw [sIx_eq, Array.length_toList]
        rfl)
      exact this
    · exact A.elim
  · split at A
    · rename_i xs ex
      obtain ⟨a, vs, rfl, hsq, rv⟩ := itemsL_sq R T ex
      exact sl_list pins s σ H _ u vl vu lo hi sl Q I rx hs pl pu ⟨a, vs, rfl, hK ▸ hsq, A.newL R (cut_rep rv lo hi)⟩
    · exact A.elim

/-! ### isinstance -/
def tyN : Ty → String
  | .int => "int" | .bool => "bool" | .str => "str" | .tuple => "tuple" | .list => "list"
def tnN : Tn → String
  | .none => "NoneType" | .bool => "bool" | .int => "int" | .str => "str" | .tuple => "tuple" | .list => "list" | .dict => "dict"
theorem kit_tn (n : Tn) (t : Ty) : kitB (tnN n) (tyN t) = some (tnIs n t) := by
  cases n <;> cases t <;> decide +kernel
/-- a value's type, as isinstance asks for it -/
theorem tyOf_of {ρ : List Addr} {st : Store} {H : Hp} {x : TV} {v : V} {n : Tn} (R : Rep γ ρ st H) (T : RepT γ ρ H x v) (h : tnOf st x = some n) : TyX γ.K H v (.type (tnN n)) := by
  unfold tnOf at h
  split at h
  · cases h; simp only [RepT, RepV] at T; subst T; exact .base .non
  · cases h; simp only [RepT, RepV] at T; subst T; exact .base (.bl _)
  · cases h; simp only [RepT, RepV] at T; subst T; exact .base (.int _)
  · cases h; simp only [RepT, RepV] at T; subst T; exact .base (.str _)
  · cases h
    simp only [RepT, RepV] at T
    obtain ⟨a, vs, rfl, t, r⟩ := T
    rcases t.sq with (t | ⟨_, t⟩) | ⟨o, its, n, k, c, _⟩
    · exact .base (.tup t)
    · exact .fTuple t
    · exact .kTuple k c
  · cases h
    simp only [RepT, RepV] at T
    obtain ⟨a, rfl, t'⟩ := T
    rcases t' with ⟨o, t'⟩ | (z | ⟨_, z⟩) | ⟨o, its, n, k, c, _⟩
    · exact .base (.frz t')
    · cases z
    · cases z
    · exact .kList k c
  · cases h
    obtain ⟨a, vs, rfl, h1, _⟩ := T
    exact .base (.lst h1)
  · split at h
    · cases h
      rename_i e
      simp only [RepT, RepV] at T
      obtain ⟨a, ha, rfl⟩ := T
      obtain ⟨b, hb, vs, e1, e2⟩ := R.ob _ _ e
      rw [ha] at hb; cases hb
      exact .base (.lst e1)
    · cases h
  · cases h
theorem kitAny_of {K : PySem.W.Frag} (n : Tn) : ∀ (ts : List Ty), PySem.W.kitAny K (.type (tnN n)) (ts.map fun t => .type (tyN t)) = some (ts.any (tnIs n))
  | [] => kitAny_nil
  | t :: ts => by
    refine kitAny_cons (kit_ty (kit_tn n t)) (fun e => ?_) (fun e => ?_)
    · rw [List.any_cons, e, Bool.false_or]; exact kitAny_of n ts
    · rw [List.any_cons, e, Bool.true_or]
theorem cls_vals : ∀ ts : List Ty, Paired ClsV (ts.map fun t => V.ty (tyN t)) (ts.map fun t => Value.type (tyN t))
  | [] => .nil
  | t :: ts => .cons (.ty _) (cls_vals ts)
end
end MP

set_option linter.all false
set_option autoImplicit false
set_option Elab.async false
set_option maxRecDepth 100000
namespace MP
open PySem L2

section
variable {γ : Gm} {ρ : List Addr} {st : Store} {H : Hp}
mutual
theorem RepV.grow (t : List Addr) : ∀ {x : IV} {v : V}, RepV γ ρ H x v → RepV γ (ρ ++ t) H x v
  | .non, _, h => h
  | .bl _, _, h => h
  | .int _, _, h => h
  | .str _, _, h => h
  | .tup xs, _, h => by
    simp only [RepV] at h ⊢
    obtain ⟨a, vs, rfl, h1, h2⟩ := h
    exact ⟨a, vs, rfl, h1, RepVs.grow t h2⟩
  | .frz ns, _, h => h
  | .ref r, _, h => by
    simp only [RepV] at h ⊢
    obtain ⟨a, h1, rfl⟩ := h
    exact ⟨a, by rw [List.getElem?_append_left (List.getElem?_eq_some_iff.mp h1).1]; exact h1, rfl⟩
theorem RepVs.grow (t : List Addr) : ∀ {x : List IV} {v : List V}, RepVs γ ρ H x v → RepVs γ (ρ ++ t) H x v
  | [], _, h => h
  | x :: xs, _, h => by
    simp only [RepVs] at h ⊢
    obtain ⟨w, ws, rfl, h1, h2⟩ := h
    exact ⟨w, ws, rfl, h1.grow t, RepVs.grow t h2⟩
end
theorem RepD.grow (t : List Addr) : ∀ {x : List (IV × IV)} {v : List (List L2.Key × V)}, RepD γ ρ H x v → RepD γ (ρ ++ t) H x v
  | [], _, h => h
  | (k, x) :: xs, _, h => by
    simp only [RepD] at h ⊢
    obtain ⟨ys, kk, v, t', rfl, rfl, h1, h2, h3⟩ := h
    exact ⟨ys, kk, v, t', rfl, rfl, h1, h2.grow t, RepD.grow t h3⟩
theorem RepK.grow (t : List Addr) : ∀ {x : List (IV × IV)} {v : List (L2.Key × V)}, RepK γ ρ H x v → RepK γ (ρ ++ t) H x v
  | [], _, h => h
  | (k, x) :: xs, _, h => by
    simp only [RepK] at h ⊢
    obtain ⟨kk, v, t', rfl, h1, h2, h3⟩ := h
    exact ⟨kk, v, t', rfl, h1, h2.grow t, RepK.grow t h3⟩
theorem RepO.grow (t : List Addr) {a : Addr} {o : IO} (h : RepO γ ρ H a o) : RepO γ (ρ ++ t) H a o := by
  cases o with
  | lst xs => obtain ⟨ws, h3, h4⟩ := h; exact ⟨ws, h3, h4.grow t⟩
  | dic kvs => obtain ⟨ks, h3, h4⟩ := h; exact ⟨ks, h3, h4.grow t⟩
  | dk kvs => obtain ⟨ks, h3, h4⟩ := h; exact ⟨ks, h3, h4.grow t⟩
  | ins c fs =>
    obtain ⟨C, dx, flds, gs, q1, q2, q3, q4, q5, q6, q7, q8⟩ := h
    refine ⟨C, dx, flds, gs, q1, q2, q3, q4, q5, q6, q7, fun j nm hj => ⟨fun x hx => ?_, (q8 j nm hj).2⟩⟩
    obtain ⟨w, w1, w2⟩ := (q8 j nm hj).1 x hx
    exact ⟨w, w1, w2.grow t⟩
mutual
theorem RepV.low : ∀ {x : IV} {v : V}, RepV γ ρ H x v → x.low ρ.length = true
  | .non, _, _ => rfl
  | .bl _, _, _ => rfl
  | .int _, _, _ => rfl
  | .str _, _, _ => rfl
  | .tup xs, _, h => by
    simp only [RepV] at h
    obtain ⟨a, vs, rfl, h1, h2⟩ := h
    simp only [IV.low]
    exact RepVs.low h2
  | .frz ns, _, _ => rfl
  | .ref r, _, h => by
    simp only [RepV] at h
    obtain ⟨a, h1, rfl⟩ := h
    simp only [IV.low, decide_eq_true_eq]
    exact (List.getElem?_eq_some_iff.mp h1).1
theorem RepVs.low : ∀ {x : List IV} {v : List V}, RepVs γ ρ H x v → IV.lows ρ.length x = true
  | [], _, _ => rfl
  | x :: xs, _, h => by
    simp only [RepVs] at h
    obtain ⟨w, ws, rfl, h1, h2⟩ := h
    simp only [IV.lows, Bool.and_eq_true]
    exact ⟨RepV.low h1, RepVs.low h2⟩
end
mutual
theorem RepV.shrink {t : List Addr} : ∀ {x : IV} {v : V}, x.low ρ.length = true → RepV γ (ρ ++ t) H x v → RepV γ ρ H x v
  | .non, _, _, h => h
  | .bl _, _, _, h => h
  | .int _, _, _, h => h
  | .str _, _, _, h => h
  | .tup xs, _, l, h => by
    simp only [RepV] at h ⊢
    simp only [IV.low] at l
    obtain ⟨a, vs, rfl, h1, h2⟩ := h
    exact ⟨a, vs, rfl, h1, RepVs.shrink l h2⟩
  | .frz ns, _, _, h => h
  | .ref r, _, l, h => by
    simp only [RepV] at h ⊢
    simp only [IV.low, decide_eq_true_eq] at l
    obtain ⟨a, h1, rfl⟩ := h
    exact ⟨a, by rw [List.getElem?_append_left l] at h1; exact h1, rfl⟩
theorem RepVs.shrink {t : List Addr} : ∀ {x : List IV} {v : List V}, IV.lows ρ.length x = true → RepVs γ (ρ ++ t) H x v → RepVs γ ρ H x v
  | [], _, _, h => h
  | x :: xs, _, l, h => by
    simp only [RepVs] at h ⊢
    simp only [IV.lows, Bool.and_eq_true] at l
    obtain ⟨w, ws, rfl, h1, h2⟩ := h
    exact ⟨w, ws, rfl, h1.shrink l.1, RepVs.shrink l.2 h2⟩
end
theorem keys_low {n : Nat} : ∀ {xs : List IV} {kk : List L2.Key}, keysOf xs = some kk → IV.lows n xs = true
  | [], _, _ => rfl
  | x :: xs, _, h => by
    cases x <;> simp only [keysOf, Option.map_eq_some_iff, reduceCtorEq] at h
    all_goals
      obtain ⟨kk, h, _⟩ := h
      simp only [IV.lows, IV.low, Bool.true_and]
      exact keys_low h
theorem RepD.low : ∀ {x : List (IV × IV)} {v : List (List L2.Key × V)}, RepD γ ρ H x v → lowK ρ.length x = true
  | [], _, _ => rfl
  | (k, x) :: xs, _, h => by
    simp only [RepD] at h
    obtain ⟨ys, kk, v, t', rfl, rfl, h1, h2, h3⟩ := h
    simp only [lowK, IV.low, Bool.and_eq_true]
    exact ⟨⟨keys_low h1, h2.low⟩, RepD.low h3⟩
theorem RepD.shrink {t : List Addr} : ∀ {x : List (IV × IV)} {v : List (List L2.Key × V)}, lowK ρ.length x = true → RepD γ (ρ ++ t) H x v → RepD γ ρ H x v
  | [], _, _, h => h
  | (k, x) :: xs, _, l, h => by
    simp only [RepD] at h ⊢
    simp only [lowK, Bool.and_eq_true] at l
    obtain ⟨ys, kk, v, t', rfl, rfl, h1, h2, h3⟩ := h
    exact ⟨ys, kk, v, t', rfl, rfl, h1, h2.shrink l.1.2, RepD.shrink l.2 h3⟩
theorem key1_low {n : Nat} {k : IV} {kk : L2.Key} (h : key1Of k = some kk) : k.low n = true := by cases k <;> first | rfl | simp [key1Of] at h
theorem RepK.low : ∀ {x : List (IV × IV)} {v : List (L2.Key × V)}, RepK γ ρ H x v → lowK ρ.length x = true
  | [], _, _ => rfl
  | (k, x) :: xs, _, h => by
    simp only [RepK] at h
    obtain ⟨kk, v, t', rfl, h1, h2, h3⟩ := h
    simp only [lowK, Bool.and_eq_true]
    exact ⟨⟨key1_low h1, h2.low⟩, RepK.low h3⟩
theorem RepK.shrink {t : List Addr} : ∀ {x : List (IV × IV)} {v : List (L2.Key × V)}, lowK ρ.length x = true → RepK γ (ρ ++ t) H x v → RepK γ ρ H x v
  | [], _, _, h => h
  | (k, x) :: xs, _, l, h => by
    simp only [RepK] at h ⊢
    simp only [lowK, Bool.and_eq_true] at l
    obtain ⟨kk, v, t', rfl, h1, h2, h3⟩ := h
    exact ⟨kk, v, t', rfl, h1, h2.shrink l.1.2, RepK.shrink l.2 h3⟩
theorem RepO.low {a : Addr} {o : IO} (h : RepO γ ρ H a o) : o.low ρ.length = true := by
  cases o with
  | lst xs => obtain ⟨ws, h3, h4⟩ := h; exact h4.low
  | dic kvs => obtain ⟨ks, h3, h4⟩ := h; exact h4.low
  | dk kvs => obtain ⟨ks, h3, h4⟩ := h; exact h4.low
  | ins c fs =>
    obtain ⟨C, dx, flds, gs, q1, q2, q3, q4, q5, q6, q7, q8⟩ := h
    simp only [IO.low, List.all_eq_true]
    intro y hy
    cases y with
    | none => rfl
    | some x =>
      obtain ⟨j, hj, e⟩ := List.getElem_of_mem hy
      have e2 : fs[j]? = some (some x) := by rw [List.getElem?_eq_getElem hj, e]
      have hj2 : j < flds.length := by omega
      obtain ⟨w, w1, w2⟩ := (q8 j flds[j] (List.getElem?_eq_getElem hj2)).1 x e2
      exact w2.low
theorem RepO.shrink {t : List Addr} {a : Addr} {o : IO} (l : o.low ρ.length = true) (h : RepO γ (ρ ++ t) H a o) : RepO γ ρ H a o := by
  cases o with
  | lst xs => obtain ⟨ws, h3, h4⟩ := h; exact ⟨ws, h3, h4.shrink l⟩
  | dic kvs => obtain ⟨ks, h3, h4⟩ := h; exact ⟨ks, h3, h4.shrink l⟩
  | dk kvs => obtain ⟨ks, h3, h4⟩ := h; exact ⟨ks, h3, h4.shrink l⟩
  | ins c fs =>
    obtain ⟨C, dx, flds, gs, q1, q2, q3, q4, q5, q6, q7, q8⟩ := h
    refine ⟨C, dx, flds, gs, q1, q2, q3, q4, q5, q6, q7, fun j nm hj => ⟨fun x hx => ?_, (q8 j nm hj).2⟩⟩
    obtain ⟨w, w1, w2⟩ := (q8 j nm hj).1 x hx
    simp only [IO.low, List.all_eq_true] at l
    exact ⟨w, w1, w2.shrink (l _ (List.mem_of_getElem? hx))⟩
/-- a value settles -/
theorem mat_ok {x : TV} {v : V} {y : IV} {st' : Store} (R : Rep γ ρ st H) (T : RepT γ ρ H x v) (h : mat x st = .ok y st') : Rep γ (ρ ++ ownA x v) st' H ∧ RepV γ (ρ ++ ownA x v) H y v := by
  cases x with
  | v x =>
    simp only [mat, Res.ok.injEq] at h
    obtain ⟨rfl, rfl⟩ := h
    simp only [ownA, List.append_nil]
    exact ⟨R, T⟩
  | l xs =>
    simp only [mat, Res.ok.injEq] at h
    obtain ⟨rfl, rfl⟩ := h
    obtain ⟨a, vs, rfl, h1, h2, h3⟩ := T
    simp only [ownA]
    refine ⟨⟨by simp [R.len], ?_, fun i o q => ?_, R.tb⟩, ?_⟩
    · rw [List.nodup_append]
      exact ⟨R.nd, by simp, fun x hx y hy => by
        simp only [List.mem_singleton] at hy
        subst hy
        rintro rfl
        exact h2 hx⟩
    · by_cases hi : i < st.length
      · rw [List.getElem?_append_left hi] at q
        obtain ⟨b, e1, e2⟩ := R.ob i o q
        exact ⟨b, by rw [List.getElem?_append_left (by rw [R.len]; exact hi)]; exact e1, e2.grow _⟩
      · have hi2 : i = st.length := by
          have := (List.getElem?_eq_some_iff.mp q).1
          simp at this
          omega
        subst hi2
        simp at q
        subst q
        exact ⟨a, by rw [← R.len]; simp, vs, h1, h3.grow _⟩
    · simp only [RepV]
      exact ⟨a, by rw [← R.len]; simp, rfl⟩
  | s _ => exact T.elim
  | d _ => exact T.elim
theorem mat_noexc {x : TV} {e : Exn} {st' : Store} : mat x st ≠ .exc e st' := by
  cases x <;> simp [mat]
theorem mats_noexc : ∀ {xs : List TV} {st st' : Store} {e : Exn}, mats xs st ≠ .exc e st'
  | [], _, _, _ => by simp [mats]
  | x :: xs, st, st', e => by
    simp only [mats]
    cases h : mat x st with
    | ok y s1 =>
      simp only [Res.bind]
      cases h2 : mats xs s1 with
      | ok ys s2 => simp [Res.bind]
      | exc _ _ => exact absurd h2 mats_noexc
      | bad => simp [Res.bind]
    | exc _ _ => exact absurd h mat_noexc
    | bad => simp [Res.bind]
theorem RepT.grow {x : TV} {v : V} {t : List Addr} (h : RepT γ ρ H x v) (d : ∀ a ∈ ownA x v, a ∉ t) : RepT γ (ρ ++ t) H x v := by
  cases x with
  | v x => exact RepV.grow t h
  | l xs =>
    obtain ⟨a, vs, rfl, h1, h2, h3⟩ := h
    refine ⟨a, vs, rfl, h1, fun z => ?_, h3.grow t⟩
    rcases List.mem_append.mp z with z | z
    · exact h2 z
    · exact d a (by simp [ownA]) z
  | s _ => exact h.elim
  | d _ => exact h.elim
theorem RepTs.grow {t : List Addr} : ∀ {x : List TV} {v : List V}, RepTs γ ρ H x v → (∀ a ∈ ownAs x v, a ∉ t) → RepTs γ (ρ ++ t) H x v
  | [], _, h, _ => h
  | x :: xs, _, h, d => by
    simp only [RepTs] at h ⊢
    obtain ⟨w, ws, rfl, h1, h2⟩ := h
    simp only [ownAs, List.mem_append] at d
    exact ⟨w, ws, rfl, h1.grow fun a ha => d a (.inl ha), RepTs.grow h2 fun a ha => d a (.inr ha)⟩
theorem mats_ok : ∀ {xs : List TV} {vs : List V} {ρ : List Addr} {st st' : Store} {ys : List IV}, Rep γ ρ st H → RepTs γ ρ H xs vs → (ownAs xs vs).Nodup → mats xs st = .ok ys st' →
    Rep γ (ρ ++ ownAs xs vs) st' H ∧ RepVs γ (ρ ++ ownAs xs vs) H ys vs
  | [], vs, ρ, st, st', ys, R, T, _, h => by
    simp only [mats, Res.ok.injEq] at h
    obtain ⟨rfl, rfl⟩ := h
    simp only [RepTs] at T
    subst T
    simp only [ownAs, List.append_nil]
    exact ⟨R, by simp [RepVs]⟩
  | x :: xs, vs, ρ, st, st', ys, R, T, n, h => by
    simp only [RepTs] at T
    obtain ⟨w, ws, rfl, h1, h2⟩ := T
    simp only [mats] at h
    cases e : mat x st with
    | ok y s1 =>
      rw [e] at h
      simp only [Res.bind] at h
      cases e2 : mats xs s1 with
      | ok zs s2 =>
        rw [e2] at h
        simp only [Res.bind, Res.ok.injEq] at h
        obtain ⟨rfl, rfl⟩ := h
        obtain ⟨R1, r1⟩ := mat_ok R h1 e
        simp only [ownAs, List.nodup_append] at n
        obtain ⟨R2, r2⟩ := mats_ok R1 (h2.grow fun a ha hb => n.2.2 a hb a ha rfl) n.2.1 e2
        simp only [ownAs, ← List.append_assoc]
        exact ⟨R2, by simp only [RepVs]; exact ⟨w, ws, rfl, r1.grow _, r2⟩⟩
      | exc _ _ => exact absurd e2 mats_noexc
      | bad => rw [e2] at h; simp [Res.bind] at h
    | exc _ _ => exact absurd e mat_noexc
    | bad => rw [e] at h; simp [Res.bind] at h
/-- what was new at the start is settled -/
theorem Ext.mat {ρ0 : List Addr} {H0 : Hp} {t : List Addr} (e : Ext ρ0 H0 ρ H) (h : ∀ a ∈ t, H0 a = none) : Ext ρ0 H0 (ρ ++ t) H := by
  obtain ⟨u, q⟩ := e.pre
  refine ⟨⟨u ++ t, by rw [q, List.append_assoc]⟩, e.keep, fun b hb => ?_, e.back⟩
  rcases List.mem_append.mp hb with z | z
  · exact e.new b z
  · exact .inr (h b z)
theorem Ext.cutE {ρ0 : List Addr} {H0 : Hp} {t : List Addr} (e : Ext ρ0 H0 (ρ ++ t) H) (h : ∃ u, ρ = ρ0 ++ u) : Ext ρ0 H0 ρ H :=
  ⟨h, e.keep, fun b hb => e.new b (List.mem_append_left _ hb), e.back⟩
/-- an object of the store is written -/
theorem Ext.upd {a : Addr} {o : HO} (ha : a ∈ ρ) : Ext ρ H ρ (L2.upd H a o) := by
  refine ⟨⟨[], by simp⟩, fun b u h n _ => ?_, fun b h => .inl h, fun b h => ?_⟩
  · rw [upd_ne (fun z => n (by rw [z]; exact ha))]; exact h
  · by_cases q : b = a
    · rw [q, upd_same] at h; cases h
    · rwa [upd_ne q] at h
/-- code tables tell the same where lists and instances alone are written -/
theorem TabsN.keep {T : List NdefX.NTab} {H' : Hp} (h : NdefX.TabsN T H) (k : ∀ b o, H b = some o → (∀ xs, o ≠ .lst xs) → (∀ C dx fs, o ≠ .ins C dx fs) → (∀ ks, o ≠ .dT ks) → (∀ ks, o ≠ .dK ks) → H' b = some o) : NdefX.TabsN T H' := by
  have code : ∀ {c : Addr} {q : Str}, H c = some (LamX.CodeO c q) → H' c = some (LamX.CodeO c q) := fun there => k _ _ there (by intro _ z; unfold LamX.CodeO at z; cases z) (by intro _ _ _ z; unfold LamX.CodeO at z; cases z) (by intro _ z; unfold LamX.CodeO at z; cases z) (by intro _ z; unfold LamX.CodeO at z; cases z)
  exact fun p hp => (h p hp).imp fun ps told => ⟨k _ _ told.1 (by intro _ z; cases z) (by intro _ _ _ z; cases z) (by intro _ z; cases z) (by intro _ z; cases z), told.2.1, fun at_ v found => (told.2.2 at_ v found).imp fun c w => ⟨w.1, code w.2⟩⟩
theorem Rep.addr (R : Rep γ ρ st H) {r : Nat} {o : IO} (h : st[r]? = some o) : ∃ a, ρ[r]? = some a ∧ RepO γ ρ H a o := R.ob r o h
theorem Rep.uniq (R : Rep γ ρ st H) {i j : Nat} {a : Addr} (h1 : ρ[i]? = some a) (h2 : ρ[j]? = some a) : i = j := by
  obtain ⟨hi, e1⟩ := List.getElem?_eq_some_iff.mp h1
  obtain ⟨hj, e2⟩ := List.getElem?_eq_some_iff.mp h2
  have hp := List.pairwise_iff_getElem.mp R.nd
  rcases Nat.lt_trichotomy i j with q | q | q
  · exact absurd (e1.trans e2.symm) (hp i j hi hj q)
  · exact q
  · exact absurd (e2.trans e1.symm) (hp j i hj hi q)
/-- the object at r is written -/
theorem Rep.set (R : Rep γ ρ st H) {r : Nat} {a : Addr} {u : HO} {o : IO} (ha : ρ[r]? = some a) (hu : RepO γ ρ (L2.upd H a u) a o) : Rep γ ρ (st.set r o) (L2.upd H a u) := by
  have hm := List.mem_of_getElem? ha
  refine ⟨by rw [List.length_set]; exact R.len, R.nd, fun i p q => ?_, TabsN.keep R.tb fun b v h n1 n2 n3 n4 => ?_⟩
  · by_cases hi : i = r
    · subst hi
      have hl := (List.getElem?_eq_some_iff.mp q).1
      rw [List.length_set] at hl
      rw [List.getElem?_set_self hl] at q
      cases q
      exact ⟨a, ha, hu⟩
    · rw [List.getElem?_set_ne (Ne.symm hi)] at q
      obtain ⟨b, h1, h2⟩ := R.ob i p q
      have nb : b ≠ a := fun z => hi (R.uniq (z ▸ h1) ha)
      exact ⟨b, h1, RepO.mono R (Ext.upd hm) (upd_ne nb) h2⟩
  · rw [upd_ne]
    · exact h
    · rintro rfl
      rcases R.mem hm with ⟨_, e⟩ | ⟨_, _, _, e⟩ | ⟨_, e⟩ | ⟨_, e⟩
      · rw [h] at e; exact n1 _ (Option.some.inj e)
      · rw [h] at e; exact n2 _ _ _ (Option.some.inj e)
      · rw [h] at e; exact n3 _ (Option.some.inj e)
      · rw [h] at e; exact n4 _ (Option.some.inj e)
end

/-! ### built-ins by name -/
def rBi (γ : Gm) (f : Bi) : List V → Hp → VK → Prop := fun vs H Q => ∃ ρ st xs E, Rep γ ρ st H ∧ RepTs γ ρ H xs vs ∧ Aft γ ρ H (biM f xs st) Q E
def biVal : Bi → Value
  | .len => .builtin "len" | .all => .builtin "all" | .any => .builtin "any" | .sum => .builtin "sum" | .int => .type "int" | .str => .type "str" | .tuple => .type "tuple" | .list => .type "list"
  | .sorted => .builtin "sorted" | .max => .builtin "max" | .min => .builtin "min" | .set => .type "set" | .dict => .type "dict" | .max2 => .builtin "max" | .min2 => .builtin "min"
section
variable {X : Cx} {γ : Gm}
theorem lenOf_run {ρ : List Addr} {st : Store} {H : Hp} {x : TV} {v : V} {n : Nat} (R : Rep γ ρ st H) (T : RepT γ ρ H x v) (h : lenOf st x = some n) : LenV γ.K v H n := by
  unfold lenOf at h
  split at h
  · split at h
    · cases h
      rename_i hl
      simp only [RepT, RepV] at T; subst T
      exact ⟨by rw [sizeLine_n]; exact hl, rfl⟩
    · cases h
  · split at h
    · cases h
      rename_i xs ex
      obtain ⟨a, vs, rfl, hs, r⟩ := itemsLT_sq R T ex
      rcases hs with hs | hs
      · exact .inl ⟨vs, hs, r.length.symm⟩
      · exact .inr ⟨vs, hs, r.length.symm⟩
    · cases h
theorem RepTs.one {ρ : List Addr} {H : Hp} {x : TV} {vs : List V} (h : RepTs γ ρ H [x] vs) : ∃ v, vs = [v] ∧ RepT γ ρ H x v := by
  simp only [RepTs] at h
  obtain ⟨w, ws, rfl, h1, rfl⟩ := h
  exact ⟨w, rfl, h1⟩
theorem RepTs.two {ρ : List Addr} {H : Hp} {x y : TV} {vs : List V} (h : RepTs γ ρ H [x, y] vs) : ∃ v w, vs = [v, w] ∧ RepT γ ρ H x v ∧ RepT γ ρ H y w := by
  simp only [RepTs] at h
  obtain ⟨w, ws, rfl, h1, w2, ws2, rfl, h2, rfl⟩ := h
  exact ⟨w, w2, rfl, h1, h2⟩
theorem maxI_is : ∀ {ns : List Int} {m : Int}, maxI ns = some m → m ∈ ns ∧ ∀ y ∈ ns, y ≤ m
  | [], m, h => by cases h
  | x :: xs, m, h => by
    simp only [maxI] at h
    split at h
    · rename_i q
      cases h
      have : xs = [] := by
        cases xs with
        | nil => rfl
        | cons y ys => simp only [maxI] at q; split at q <;> cases q
      subst this
      exact ⟨List.mem_cons_self, fun y hy => by simp at hy; omega⟩
    · rename_i k q
      obtain ⟨q1, q2⟩ := maxI_is q
      simp only [Option.some.injEq] at h
      subst h
      refine ⟨?_, fun y hy => ?_⟩
      · split
        · exact List.mem_cons_self
        · exact List.mem_cons_of_mem _ q1
      · rcases List.mem_cons.mp hy with rfl | hy
        · split <;> omega
        · have := q2 y hy
          split <;> omega
theorem minI_is : ∀ {ns : List Int} {m : Int}, minI ns = some m → m ∈ ns ∧ ∀ y ∈ ns, m ≤ y
  | [], m, h => by cases h
  | x :: xs, m, h => by
    simp only [minI] at h
    split at h
    · rename_i q
      cases h
      have : xs = [] := by
        cases xs with
        | nil => rfl
        | cons y ys => simp only [minI] at q; split at q <;> cases q
      subst this
      exact ⟨List.mem_cons_self, fun y hy => by simp at hy; omega⟩
    · rename_i k q
      obtain ⟨q1, q2⟩ := minI_is q
      simp only [Option.some.injEq] at h
      subst h
      refine ⟨?_, fun y hy => ?_⟩
      · split
        · exact List.mem_cons_self
        · exact List.mem_cons_of_mem _ q1
      · rcases List.mem_cons.mp hy with rfl | hy
        · split <;> omega
        · have := q2 y hy
          split <;> omega
theorem callr_bi (hK : X.K = γ.K) (hc : X.calm = true) (f : Bi) : CallR X (biVal f) (rBi γ f) := by
  intro pins s σ H vs us Q I r h
  obtain ⟨ρ, st, xs, E, R, T, A⟩ := h
  unfold biM at A
  split at A
  · obtain ⟨v, rfl, T'⟩ := T.one
    split at A
    · rename_i n hn
      exact call_len pins s σ H _ us Q I r ⟨v, n, rfl, hK ▸ lenOf_run R T' hn, A.val R rfl⟩
    · exact A.elim
  · obtain ⟨v, rfl, T'⟩ := T.one
    split at A
    · rename_i bs hb
      obtain ⟨ys, e1, e2⟩ := Option.bind_eq_some_iff.mp hb
      obtain ⟨a, ws, rfl, hs, rv⟩ := itemsL_sq R T' e1
      rw [rv.asBools e2] at hs
      exact cr_all hc pins s σ H _ us Q I r ⟨a, bs, rfl, hK ▸ hs, A.val R rfl⟩
    · exact A.elim
  · obtain ⟨v, rfl, T'⟩ := T.one
    split at A
    · rename_i bs hb
      obtain ⟨ys, e1, e2⟩ := Option.bind_eq_some_iff.mp hb
      obtain ⟨a, ws, rfl, hs, rv⟩ := itemsL_sq R T' e1
      rw [rv.asBools e2] at hs
      exact cr_any hc pins s σ H _ us Q I r ⟨a, bs, rfl, hK ▸ hs, A.val R rfl⟩
    · exact A.elim
  · obtain ⟨v, rfl, T'⟩ := T.one
    split at A
    · rename_i ns hb
      obtain ⟨ys, e1, e2⟩ := Option.bind_eq_some_iff.mp hb
      obtain ⟨a, ws, rfl, hs, rv⟩ := itemsL_sq R T' e1
      rw [rv.asInts e2] at hs
      exact cr_sum hc pins s σ H _ us Q I r ⟨a, ns, rfl, hK ▸ hs, A.val R rfl⟩
    · exact A.elim
  · obtain ⟨v, rfl, T'⟩ := T.one
    simp only [RepT, RepV] at T'; subst T'
    exact call_int1 pins s σ H _ us Q I r (.inl ⟨_, rfl, A.val R rfl⟩)
  · obtain ⟨v, rfl, T'⟩ := T.one
    simp only [RepT, RepV] at T'; subst T'
    exact call_int1 pins s σ H _ us Q I r (.inr ⟨_, rfl, A.val R rfl⟩)
  · obtain ⟨v, rfl, T'⟩ := T.one
    simp only [RepT, RepV] at T'
    obtain ⟨a, ws, rfl, t, rv⟩ := T'
    exact call_tuple_of pins s σ H _ us Q I r ⟨a, ws, rfl, .inr ⟨hK ▸ t.sq, A.oldT R t rv⟩⟩
  · obtain ⟨v, rfl, T'⟩ := T.one
    split at A
    · rename_i xs ex
      obtain ⟨a, ws, rfl, hs, rv⟩ := itemsL_sq R T' ex
      exact call_tuple_of pins s σ H _ us Q I r ⟨a, ws, rfl, .inl ⟨hK ▸ hs, A.newT R rv⟩⟩
    · exact A.elim
  · obtain ⟨v, rfl, T'⟩ := T.one
    split at A
    · rename_i xs ex
      obtain ⟨a, ws, rfl, hs, rv⟩ := itemsLT_sq R T' ex
      exact call_list_of pins s σ H _ us Q I r ⟨a, ws, rfl, hK ▸ hs, A.newL R rv⟩
    · exact A.elim
  · obtain ⟨v, rfl, T'⟩ := T.one
    split at A
    · rename_i m hb
      obtain ⟨ns, hb, hm⟩ := Option.bind_eq_some_iff.mp hb
      obtain ⟨ys, e1, e2⟩ := Option.bind_eq_some_iff.mp hb
      obtain ⟨a, ws, rfl, hs, rv⟩ := itemsL_sq R T' e1
      rw [rv.asInts e2] at hs
      obtain ⟨m1, m2⟩ := maxI_is hm
      refine cr_max hc pins s σ H _ us Q I r ⟨a, ns, rfl, hK ▸ hs, List.length_pos_of_mem m1, fun k k1 k2 => ?_⟩
      have : k = m := Int.le_antisymm (m2 k k1) (k2 m m1)
      subst this
      exact A.val R rfl
    · exact A.elim
  · obtain ⟨v, rfl, T'⟩ := T.one
    split at A
    · rename_i m hb
      obtain ⟨ns, hb, hm⟩ := Option.bind_eq_some_iff.mp hb
      obtain ⟨ys, e1, e2⟩ := Option.bind_eq_some_iff.mp hb
      obtain ⟨a, ws, rfl, hs, rv⟩ := itemsL_sq R T' e1
      rw [rv.asInts e2] at hs
      obtain ⟨m1, m2⟩ := minI_is hm
      refine cr_min hc pins s σ H _ us Q I r ⟨a, ns, rfl, hK ▸ hs, List.length_pos_of_mem m1, fun k k1 k2 => ?_⟩
      have : k = m := Int.le_antisymm (k2 m m1) (m2 k k1)
      subst this
      exact A.val R rfl
    · exact A.elim
  · obtain ⟨v, w, rfl, T1, T2⟩ := T.two
    simp only [RepT, RepV] at T1 T2; subst T1 T2
    exact call_max2 hc pins s σ H _ us Q I r ⟨_, _, rfl, A.val R (by simp only [RepV])⟩
  · obtain ⟨v, w, rfl, T1, T2⟩ := T.two
    simp only [RepT, RepV] at T1 T2; subst T1 T2
    exact call_min2 hc pins s σ H _ us Q I r ⟨_, _, rfl, A.val R (by simp only [RepV])⟩
  · exact A.elim

/-! ### methods of lists -/
def rBm (γ : Gm) (f : Bm) : V → List V → Hp → VK → Prop := fun v vs H Q => ∃ ρ0 H0 ρ st x xs E, Ext ρ0 H0 ρ H ∧ Rep γ ρ st H ∧ RepT γ ρ H x v ∧ RepTs γ ρ H xs vs ∧ (∀ a ∈ ownAs xs vs, H0 a = none) ∧ Aft γ ρ0 H0 (bmM f x xs st) Q E
def bmId : Bm → String
  | .append => "list.append" | .extend => "list.extend" | .index => "list.index" | .get1 => "dict.get" | .get2 => "dict.get" | .join => "str.join" | .split => "str.split" | .count => "list.count"
theorem RepV.nones {ρ : List Addr} {H : Hp} : RepV γ ρ H .non .non := rfl
theorem findEq_spec {x : IV} : ∀ {ys : List IV} {k : Nat}, findEq x ys = some k → ∃ z, ys[k]? = some z ∧ pyEq z x = true ∧ ∀ m z', m < k → ys[m]? = some z' → pyEq z' x = false
  | [], _, h => by simp [findEq] at h
  | y :: ys, k, h => by
    simp only [findEq] at h
    split at h
    · rename_i e
      cases h
      exact ⟨y, rfl, e, fun m z' hm => absurd hm (Nat.not_lt_zero _)⟩
    · rename_i e
      obtain ⟨j, ej, rfl⟩ := Option.map_eq_some_iff.mp h
      obtain ⟨z, h1, h2, h3⟩ := findEq_spec ej
      refine ⟨z, by simpa using h1, h2, fun m z' hm hz => ?_⟩
      cases m with
      | zero => simp at hz; subst hz; simpa using e
      | succ m => exact h3 m z' (by omega) (by simpa using hz)
theorem toDs_get : ∀ {ys : List IV} {k : Nat}, (toDs ys)[k]? = ys[k]?.map toD
  | [], k => by simp [toDs]
  | y :: ys, 0 => by simp [toDs]
  | y :: ys, k + 1 => by simp only [toDs, List.getElem?_cons_succ]; exact toDs_get
theorem plains_get : ∀ {ys : List IV} {k : Nat} {z : IV}, IV.plains ys = true → ys[k]? = some z → z.plain = true
  | [], k, z, _, h => by simp at h
  | y :: ys, 0, z, p, h => by
    simp only [IV.plains, Bool.and_eq_true] at p
    simp at h; subst h; exact p.1
  | y :: ys, k + 1, z, p, h => by
    simp only [IV.plains, Bool.and_eq_true] at p
    exact plains_get p.2 (by simpa using h)
theorem mtr_bm (hK : X.K = γ.K) (hu : X.A.units + 100 < cLine) (f : Bm) (hf : f = .append ∨ f = .extend) : MtR X (bmId f) (rBm γ f) := by
  intro pins s σ H v vs u us Q I rv rvs h
  obtain ⟨ρ0, H0, ρ, st, x, xs, E, e0, R, T, Ts, fr, A⟩ := h
  unfold bmM at A
  split at A
  · rename_i r x
    obtain ⟨w, rfl, T2⟩ := Ts.one
    simp only [RepT, RepV] at T
    obtain ⟨a, ha, rfl⟩ := T
    split at A
    · rename_i ys ey
      obtain ⟨b, hb, ws, hw, rw_⟩ := R.ob _ _ ey
      rw [ha] at hb; cases hb
      split at A
      · rename_i hl
        cases em : mat x st with
        | ok y st1 =>
          rw [em] at A
          simp only [Res.bind] at A
          obtain ⟨R1, r1⟩ := mat_ok R T2 em
          have fr' : ∀ c ∈ ownA x w, H0 c = none := fun c hc => fr c (by simp [ownAs, hc])
          have ha1 : (ρ ++ ownA x w)[r]? = some a := by rw [List.getElem?_append_left (List.getElem?_eq_some_iff.mp ha).1]; exact ha
          have eU : Ext (ρ ++ ownA x w) H (ρ ++ ownA x w) (L2.upd H a (.lst (ws ++ [w]))) := Ext.upd (List.mem_of_getElem? ha1)
          refine mt_append pins s σ H _ _ u us Q I rv rvs ⟨a, ws, w, rfl, rfl, hw, by rw [sizeLine_n, rw_.length]; exact hl, ?_⟩
          refine A _ _ _ ((e0.mat fr').trans eU) (R1.set ha1 ⟨_, upd_same, ?_⟩) rfl (fun c hc => by simp [ownA] at hc)
          exact (rw_.grow _).mono R1 eU |>.app (by simp only [RepVs]; exact ⟨_, _, rfl, r1.mono R1 eU, rfl⟩)
        | exc _ _ => exact absurd em mat_noexc
        | bad => rw [em] at A; exact A.elim
      · exact A.elim
    · exact A.elim
  · rename_i r x
    obtain ⟨w, rfl, T2⟩ := Ts.one
    simp only [RepT, RepV] at T
    obtain ⟨a, ha, rfl⟩ := T
    split at A
    · rename_i ys zs ey ez
      obtain ⟨b, hb, ws, hw, rw_⟩ := R.ob _ _ ey
      rw [ha] at hb; cases hb
      obtain ⟨c, vs2, rfl, hc, rz⟩ := itemsM_at R T2 ez
      split at A
      · rename_i hl
        have eU : Ext ρ H ρ (L2.upd H a (.lst (ws ++ vs2))) := Ext.upd (List.mem_of_getElem? ha)
        refine mt_extend pins s σ H _ _ u us Q I rv rvs ⟨a, c, ws, vs2, rfl, rfl, hw, hc, by rw [sizeLine_n, rw_.length, rz.length]; exact hl, ?_⟩
        exact A _ _ _ (e0.trans eU) (R.set ha ⟨_, upd_same, (rw_.mono R eU).app (rz.mono R eU)⟩) rfl (fun c hc => by simp [ownA] at hc)
      · exact A.elim
    · exact A.elim
  · rcases hf with hf | hf <;> cases hf
  · exact A.elim

/-! ### a call's end -/
theorem take_pre {α : Type} {l t : List α} {n : Nat} (h : l.length = n) : (l ++ t).take n = l := by rw [← h]; exact List.take_left
theorem okPre_get : ∀ {n : Nat} {s t : Store}, okPre n s t = true → ∀ (i : Nat) (a : IO), s[i]? = some a → ∃ b, t[i]? = some b ∧ (b = a ∨ b.low n = true)
  | n, [], t, _, i, a, h => by simp at h
  | n, x :: s, [], h, _, _, _ => by simp [okPre] at h
  | n, x :: s, y :: t, h, 0, a, e => by
    simp only [okPre, Bool.and_eq_true, Bool.or_eq_true] at h
    simp at e; subst e
    exact ⟨y, rfl, h.1.elim (fun q => .inl (IO.eqb_eq q).symm) .inr⟩
  | n, x :: s, y :: t, h, i + 1, a, e => by
    simp only [okPre, Bool.and_eq_true] at h
    simpa using okPre_get h.2 i a (by simpa using e)
theorem gc_rep {ρ ρ' : List Addr} {st0 st' : Store} {H H' : Hp} {t : List Addr} (R0 : Rep γ ρ st0 H) (hρ : ρ' = ρ ++ t) (R' : Rep γ ρ' st' H') (h : okPre st0.length st0 st' = true) : Rep γ ρ (st'.take st0.length) H' := by
  have hlen : st0.length ≤ st'.length := by
    have e1 := R0.len
    have e2 := R'.len
    rw [hρ, List.length_append] at e2
    omega
  refine ⟨by rw [List.length_take, R0.len]; omega, ?_, fun i o q => ?_, R'.tb⟩
  · have := R'.nd
    rw [hρ, List.nodup_append] at this
    exact this.1
  · have hi : i < st0.length := by
      have := (List.getElem?_eq_some_iff.mp q).1
      rw [List.length_take] at this
      omega
    rw [List.getElem?_take_of_lt hi] at q
    obtain ⟨a, h1, h2⟩ := R'.ob i o q
    rw [hρ] at h1 h2
    rw [List.getElem?_append_left (by rw [R0.len]; exact hi)] at h1
    refine ⟨a, h1, h2.shrink ?_⟩
    obtain ⟨b, e1, e2⟩ := okPre_get h i st0[i] (List.getElem?_eq_getElem hi)
    rw [q] at e1
    cases e1
    rw [R0.len]
    rcases e2 with rfl | e2
    · obtain ⟨a', q1, q2⟩ := R0.ob i _ (List.getElem?_eq_getElem hi)
      rw [← R0.len]; exact q2.low
    · exact e2
theorem gc_ok {ρ0 ρ : List Addr} {H0 H : Hp} {st0 : Store} {t : List Addr} {r : Res TV} {Q : VK} {E : XK} (e0 : Ext ρ0 H0 ρ H) (R0 : Rep γ ρ st0 H) (ft : ∀ a ∈ t, H0 a = none) (A : Aft γ ρ0 H0 (gc st0 r) Q E) :
    Aft γ (ρ ++ t) H r Q E := by
  cases r with
  | bad => exact A
  | exc x st' =>
    intro ρ' H' cls d e1 R' X'
    have ea : Ext ρ0 H0 ρ' H' := (e0.mat ft).trans e1
    simp only [gc] at A
    split at A
    · rename_i hc
      simp only [Bool.and_eq_true] at hc
      obtain ⟨u, hu⟩ := e1.pre
      rw [List.append_assoc] at hu
      refine A ρ H' cls d ((hu ▸ ea : Ext ρ0 H0 (ρ ++ (t ++ u)) H').cutE e0.pre) (gc_rep R0 hu R' hc.1) ?_
      obtain ⟨C, f, q1, q2, q3⟩ := X'
      refine ⟨C, f, q1, q2, ?_⟩
      cases f with
      | none =>
        cases hv : x.val with
        | none => rw [hv] at q3; exact q3
        | some y => rw [hv] at q3; exact q3.elim
      | some nm =>
        cases hv : x.val with
        | none => rw [hv] at q3; exact q3
        | some y =>
          rw [hv] at q3
          obtain ⟨dd, v, z1, z2, z3⟩ := q3
          refine ⟨dd, v, z1, z2, ?_⟩
          rw [hu] at z3
          have := hc.2
          rw [hv] at this
          exact z3.shrink (by rw [R0.len]; exact this)
    · exact A ρ' H' cls d ea R' X'
  | ok x st' =>
    intro ρ' H' v e1 R' T fo
    have ea : Ext ρ0 H0 ρ' H' := (e0.mat ft).trans e1
    have fo' : ∀ a ∈ ownA x v, H0 a = none := fun a ha => e0.back a (fo a ha)
    simp only [gc] at A
    split at A
    · rename_i hc
      obtain ⟨u, hu⟩ := e1.pre
      rw [List.append_assoc] at hu
      have Rg := gc_rep R0 hu R' hc
      have eg : Ext ρ0 H0 ρ H' := (hu ▸ ea : Ext ρ0 H0 (ρ ++ (t ++ u)) H').cutE e0.pre
      split at A
      · rename_i y hy
        unfold gcV at hy
        split at hy
        · rename_i r
          split at hy
          · rename_i hr
            cases hy
            refine A ρ H' v eg Rg ?_ fo'
            rw [hu] at T
            exact RepV.shrink (γ := γ) (H := H') (x := .ref r) (by simp only [IV.low, decide_eq_true_eq]; rw [R0.len]; exact hr) T
          · rename_i hr
            split at hy
            · split at hy
              · rename_i xs exs hl
                cases hy
                simp only [RepT, RepV] at T
                obtain ⟨a, ha, rfl⟩ := T
                obtain ⟨b, hb, vs, q1, q2⟩ := R'.ob _ _ exs
                rw [ha] at hb; cases hb
                have na : a ∉ ρ := fun z => by
                  obtain ⟨j, hj, ej⟩ := List.getElem_of_mem z
                  have h2 : ρ'[j]? = some a := by rw [hu, List.getElem?_append_left hj, List.getElem?_eq_getElem hj, ej]
                  have := R'.uniq ha h2
                  rw [R0.len] at hj
                  omega
                refine A ρ H' (.ref a) eg Rg ⟨a, vs, rfl, q1, na, ?_⟩ (fun c hc2 => ?_)
                · rw [hu] at q2
                  exact q2.shrink (by rw [R0.len]; exact hl)
                · simp only [ownA, List.mem_singleton] at hc2
                  subst hc2
                  rcases e1.new c (List.mem_of_getElem? ha) with z | z
                  · rcases List.mem_append.mp z with z | z
                    · exact absurd z na
                    · exact ft c z
                  · exact e0.back c z
              · cases hy
            · cases hy
        · split at hy
          · rename_i hl
            cases hy
            refine A ρ H' v eg Rg ?_ fo'
            rw [hu] at T
            exact RepV.shrink (by rw [R0.len]; exact hl) T
          · cases hy
        · split at hy
          · rename_i hl
            cases hy
            obtain ⟨a, vs, rfl, q1, q2, q3⟩ := T
            refine A ρ H' _ eg Rg ⟨a, vs, rfl, q1, fun z => q2 (by rw [hu]; exact List.mem_append_left _ z), ?_⟩ fo'
            rw [hu] at q3
            exact q3.shrink (by rw [R0.len]; exact hl)
          · cases hy
        · exact T.elim
        · exact T.elim
      · exact A ρ' H' v ea R' T fo'
    · exact A ρ' H' v ea R' T fo'
end
end MP

set_option linter.all false
set_option autoImplicit false
set_option Elab.async false
set_option maxRecDepth 100000
set_option maxHeartbeats 4000000
namespace MP
open PySem L2

/-! ### the text beside the IR -/
structure Sc where
  N : List Str
  scope : Scope
  raw : Scope
  calm : Bool := true
  hn : Option Str := none
  actN : Option Str := none
  lamA : List (Nat × LamA) := []
  inS : Bool := false
  isN : List (Str × Nat) := []
  isF : List (Nat × Str) := []
/-- a comprehension's block within sc -/
def Sc.blk (sc : Sc) (scope : Scope) : Sc := { N := sc.N, scope := relS scope sc.scope, raw := scope, calm := sc.calm, hn := none }
def locB (sc : Sc) (x : Str) : Bool := match sc.raw.names.lookup x with
  | some .local => true
  | some .cell => true
  | _ => false
def notSet : Expr → Bool
  | .Set .. => false
  | _ => true
def ownP (sc : Sc) (own : List Nat) : List (Str × Nat) := own.filterMap fun i => sc.N[i]?.map fun x => (x, i)
def visB (sc : Sc) (x : Str) : Bool := match sc.scope.names.lookup x with
  | some .local => true
  | some .cell => true
  | some .free => true
  | _ => false
def globB (sc : Sc) (x : Str) : Bool := match sc.scope.names.lookup x with
  | some .globalImplicit => !(x == ("__debug__" : Str)) && !(x == ("__name__" : Str))
  | _ => false
def notStar : Expr → Bool
  | .Starred .. => false
  | _ => true
def plainB : Expr → Bool
  | .Call (.Name id _) [] [] _ => !(id == ("super" : Str))
  | _ => true
def notSlice : Expr → Bool
  | .Slice .. => false
  | _ => true
def notComp : Expr → Bool
  | .ListComp .. => false
  | .SetComp .. => false
  | .DictComp .. => false
  | _ => true
def isTup : Expr → Bool
  | .Tuple .. => true
  | _ => false
def cOf : Const → IV → Bool
  | .none, .non => true
  | .bool a, .bl b => a == b
  | .int a, .int b => a == b
  | .str a, .str b => decide (a = b)
  | _, _ => false
def biN : Bi → Str
  | .len => "len" | .all => "all" | .any => "any" | .sum => "sum" | .int => "int" | .str => "str" | .tuple => "tuple" | .list => "list" | .sorted => "sorted" | .max => "max" | .min => "min" | .set => "set" | .dict => "dict" | .max2 => "max" | .min2 => "min"
def bmN : Bm → Str
  | .append => "append" | .extend => "extend" | .index => "index" | .get1 => "get" | .get2 => "get" | .join => "join" | .split => "split" | .count => "count"
def biOn : Bi → Bool
  | .len => true | .all => true | .any => true | .sum => true | .int => true | .tuple => true | .list => true | .max => true | .min => true | .max2 => true | .min2 => true
  | _ => false
def bmOn : Bm → Bool
  | .append => true | .extend => true
  | _ => false
def bNames : List Str := ["len", "all", "any", "sum", "int", "str", "tuple", "list", "sorted", "max", "min", "set", "dict", "isinstance", "range", "bool"]
def tyAST (ts : List Ty) : Expr → Bool
  | .Name x _ => match ts with
    | [t] => x == Str.ofString (tyN t)
    | _ => false
  | .Tuple es _ _ => decide (es.length = ts.length) && (es.zip ts).all fun (e, t) => match e with
    | .Name x _ => x == Str.ofString (tyN t)
    | _ => false
  | _ => false
def tyNames : Expr → List Str
  | .Name x _ => [x]
  | .Tuple es _ _ => es.filterMap fun | .Name x _ => some x | _ => none
  | _ => []

mutual
def slots : Pt → List Nat
  | .v i => [i]
  | .tup ps => slotss ps
  | .idx _ _ => []
  | .attr _ _ _ _ => []
def slotss : List Pt → List Nat
  | [] => []
  | p :: ps => slots p ++ slotss ps
end
/-- the parts of a text of a given form -/
def subE : Expr → Option (Expr × Expr)
  | .Subscript o i _ => if notSlice i then some (o, i) else none
  | _ => none
theorem subE_eq {a o i : Expr} (h : subE a = some (o, i)) : notSlice i = true ∧ ∃ p, a = .Subscript o i p := by
  unfold subE at h
  split at h
  · split at h
    · cases h; exact ⟨‹_›, _, rfl⟩
    · cases h
  · cases h
/-- o.m(x, f) -/
def met2B (m : Str) : Expr → Option (Expr × Expr × Expr)
  | .Call (.Attribute o nm apos) [x, f] [] pos => if decide (nm = m) && plainB o && notStar x && notStar f && (apos.endLine == pos.line) then some (o, x, f) else none
  | _ => none
theorem met2B_eq {m : Str} {a o x f : Expr} (h : met2B m a = some (o, x, f)) : plainB o = true ∧ notStar x = true ∧ notStar f = true ∧ ∃ apos pos, (apos.endLine == pos.line) = true ∧ a = .Call (.Attribute o m apos) [x, f] [] pos := by
  unfold met2B at h
  split at h
  · split at h
    · rename_i q
      simp only [Bool.and_eq_true, decide_eq_true_eq] at q
      obtain ⟨⟨⟨⟨q1, q2⟩, q3⟩, q4⟩, q5⟩ := q
      cases h; subst q1
      exact ⟨q2, q3, q4, _, _, q5, rfl⟩
    · cases h
  · cases h
def inOp : Bool → CmpOp
  | true => .In
  | false => .NotIn
def cmpB (op : CmpOp) : Expr → Option (Expr × Expr)
  | .Compare l [o] [r] _ => if decide (o = op) && !(behindInMarks o r) then some (l, r) else none
  | _ => none
theorem cmpB_eq {op : CmpOp} {a l r : Expr} (h : cmpB op a = some (l, r)) : behindInMarks op r = false ∧ ∃ p, a = .Compare l [op] [r] p := by
  unfold cmpB at h
  split at h
  · split at h
    · rename_i q
      simp only [Bool.and_eq_true, decide_eq_true_eq, Bool.not_eq_true'] at q
      obtain ⟨q1, q2⟩ := q
      cases h; subst q1
      exact ⟨q2, _, rfl⟩
    · cases h
  · cases h
/-- f(o), f a built-in -/
def cal1B (sc : Sc) (nm : Str) : Expr → Option Expr
  | .Call (.Name x _) [o] [] _ => if decide (x = nm) && globB sc x && notStar o then some o else none
  | _ => none
theorem cal1B_eq {sc : Sc} {nm : Str} {a o : Expr} (h : cal1B sc nm a = some o) : globB sc nm = true ∧ notStar o = true ∧ ∃ p pos, a = .Call (.Name nm p) [o] [] pos := by
  unfold cal1B at h
  split at h
  · split at h
    · rename_i q
      simp only [Bool.and_eq_true, decide_eq_true_eq] at q
      obtain ⟨⟨q1, q2⟩, q3⟩ := q
      cases h; subst q1
      exact ⟨q2, q3, _, _, rfl⟩
    · cases h
  · cases h
/-- {k: v, ..} -/
def dispB : Expr → Option (List Expr × List Expr)
  | .Dict ks vs _ => if ks.all (·.isSome) && decide (ks.length = vs.length) && !ks.isEmpty then some (ks.filterMap id, vs) else none
  | _ => none
theorem keys_some : ∀ {ks : List (Option Expr)}, ks.all (·.isSome) = true → ks = (ks.filterMap id).map some
  | [], _ => rfl
  | none :: ks, h => by simp at h
  | some k :: ks, h => by
    simp only [List.all_cons, Bool.and_eq_true] at h
    simp only [List.filterMap_cons, id_eq, List.map_cons]
    exact congrArg _ (keys_some h.2)
theorem dispB_eq {a : Expr} {ks vs : List Expr} (h : dispB a = some (ks, vs)) : ks.length = vs.length ∧ ks ≠ [] ∧ ∃ p, a = .Dict (ks.map some) vs p := by
  unfold dispB at h
  split at h
  · split at h
    · rename_i q
      simp only [Bool.and_eq_true, decide_eq_true_eq, Bool.not_eq_true'] at q
      obtain ⟨⟨q1, q2⟩, q3⟩ := q
      cases h
      have e := keys_some q1
      refine ⟨?_, fun z => ?_, _, congrArg (fun z => Expr.Dict z _ _) e⟩
      · rw [← q2]
        exact (congrArg List.length e).symm ▸ by simp
      · rw [z] at e
        rw [e] at q3
        simp at q3
    · cases h
  · cases h
def comp2B : Expr → Option (Expr × Expr × Expr × List Expr × Expr × Expr × List Expr × Scope)
  | .ListComp elt [⟨tg, iter, is, 0⟩, ⟨tg1, iter1, is1, 0⟩] scope _ => some (elt, tg, iter, is, tg1, iter1, is1, scope)
  | _ => none
theorem comp2B_eq {a elt tg iter tg1 iter1 : Expr} {is is1 : List Expr} {scope : Scope} (h : comp2B a = some (elt, tg, iter, is, tg1, iter1, is1, scope)) : ∃ p, a = .ListComp elt [⟨tg, iter, is, 0⟩, ⟨tg1, iter1, is1, 0⟩] scope p := by
  unfold comp2B at h
  split at h
  · cases h; exact ⟨_, rfl⟩
  · cases h
def hIsB (sc : Sc) (c : Nat) (nm : Str) : Expr → Bool
  | .Call (.Name i _) [.Name x _, .Name y _] [] _ => decide (i = "isinstance") && decide (sc.hn = some x) && decide (y = nm) && globB sc i && globB sc y && decide (sc.isN.lookup y = some c) && !(x == ("__debug__" : Str)) && !(x == ("__classdict__" : Str))
  | _ => false
def hFldB (sc : Sc) (c : Nat) (f : Str) : Expr → Bool
  | .Attribute (.Name x _) f' _ => decide (sc.hn = some x) && decide (f' = f) && decide ((c, f) ∈ sc.isF) && !(x == ("__debug__" : Str)) && !(x == ("__classdict__" : Str))
  | _ => false
def actB (sc : Sc) : Expr → Bool
  | .Call (.Name x _) [] [] _ => decide (sc.actN = some x)
  | _ => false
def wlitB (sc : Sc) (me : FnDef) (k : Nat) : Expr → Bool
  | .Call (.Name x _) [l] [] _ => globB sc x && (match me.ws.lookup k with | some (fd, _) => decide (fd.nm = x) | none => false) && (match sc.lamA.lookup k with | some a => a.is l | none => false)
  | _ => false
mutual
def chkE (sc : Sc) (me : FnDef) : E → Expr → Bool
  | .v i, .Name x _ => decide (sc.N[i]? = some x) && visB sc x && !(x == ("__debug__" : Str)) && !(x == ("__classdict__" : Str))
  | .c x, .Constant c _ _ => cOf c x
  | .g nm _, .Name x _ => decide (nm = x) && globB sc x
  | .tup es, .Tuple as _ _ => chkEs sc me es as
  | .lst es, .List as _ => chkEs sc me es as
  | .bin op a b, .BinOp l o r _ => decide (o = bAST op) && chkE sc me a l && chkE sc me b r
  | .neg a, .UnaryOp .USub x _ => chkE sc me a x
  | .cmp op a b, .Compare l [o] [r] _ => decide (o = cAST op) && !(behindInMarks o r) && chkE sc me a l && chkE sc me b r
  | .chain o1 o2 a b c, .Compare l [p1, p2] [m, r] _ => decide (p1 = cAST o1) && decide (p2 = cAST o2) && !(behindInMarks p2 r) && chkE sc me a l && chkE sc me b m && chkE sc me c r
  | .isN a, .Compare l [.Is] [.Constant .none _ _] _ => chkE sc me a l
  | .notN a, .Compare l [.IsNot] [.Constant .none _ _] _ => chkE sc me a l
  | .isB true b a, .Compare l [.Is] [.Constant (.bool c) _ _] _ => decide (b = c) && chkE sc me a l
  | .isB false b a, .Compare l [.IsNot] [.Constant (.bool c) _ _] _ => decide (b = c) && chkE sc me a l
  | .chain3 o1 o2 o3 a b c d, .Compare l [p1, p2, p3] [m, n, r] _ => decide (p1 = cAST o1) && decide (p2 = cAST o2) && decide (p3 = cAST o3) && !(behindInMarks p3 r) && chkE sc me a l && chkE sc me b m && chkE sc me c n && chkE sc me d r
  | .ixof tup a e, .Call (.Attribute o nm apos) [x] [] pos => !tup && decide (nm = "index") && plainB o && notStar x && (apos.endLine == pos.line) && chkE sc me a o && chkE sc me e x
  | .cntB a e, .Call (.Attribute o nm apos) [x] [] pos => decide (nm = "count") && plainB o && notStar x && (apos.endLine == pos.line) && chkE sc me a o && chkE sc me e x
  | .dnew, .Dict [] [] _ => true
  | .dget a ks, .Subscript o (.Tuple as _ _) _ => chkE sc me a o && chkEs sc me ks as
  | .dgetD a ks d, .Call (.Attribute o nm apos) [.Tuple as _ _, f] [] pos => decide (nm = "get") && plainB o && notStar f && (apos.endLine == pos.line) && chkE sc me a o && chkEs sc me ks as && chkE sc me d f
  | .din true ks a, .Compare (.Tuple as _ _) [.In] [r] _ => !(behindInMarks .In r) && chkEs sc me ks as && chkE sc me a r
  | .din false ks a, .Compare (.Tuple as _ _) [.NotIn] [r] _ => !(behindInMarks .NotIn r) && chkEs sc me ks as && chkE sc me a r
  | .dsort a, .Call (.Name x _) [.Call (.Name y _) [o] [] _] [] _ => sc.calm && decide (x = "sorted") && globB sc x && decide (y = "list") && globB sc y && notStar o && chkE sc me a o
  | .kget a k, x => match subE x with | some (o, i) => chkE sc me a o && chkE sc me k i | none => false
  | .kgetD a k d, x => match met2B "get" x with | some (o, y, f) => chkE sc me a o && chkE sc me k y && chkE sc me d f | none => false
  | .kin pos k a, x => match cmpB (inOp pos) x with | some (l, r) => chkE sc me k l && chkE sc me a r | none => false
  | .knew, .Dict [] [] _ => true
  | .kdisp ks vs, x => match dispB x with | some (as, bs) => chkEs sc me ks as && chkEs sc me vs bs | none => false
  | .dmk a, x => sc.calm && match cal1B sc "dict" x with | some o => chkE sc me a o | none => false
  | .dlist a, x => sc.calm && match cal1B sc "list" x with | some o => chkE sc me a o | none => false
  | .sortT a, x => match cal1B sc "sorted" x with | some o => chkE sc me a o | none => false
  | .comp2 own own1 pt it ifs pt1 it1 ifs1 e, x => match comp2B x with
    | some (elt, tg, iter, is, tg1, iter1, is1, scope) => sc.calm && notSet iter && notSet iter1 && decide (ifs.length ≤ 1) && decide (ifs1.length ≤ 1) && decide ((ownP sc own).map (·.2) = own) && blkC sc.N sc.scope scope (ownP sc own) && (slots pt).all (fun j => own.contains j) && (slots pt1).all (fun j => own1.contains j) && own1.all (fun j => own.contains j) &&
      chkI sc me it iter && chkP (sc.blk scope) me pt tg && chkEs (sc.blk scope) me ifs is && chkI (sc.blk scope) me it1 iter1 && chkP (sc.blk scope) me pt1 tg1 && chkEs (sc.blk scope) me ifs1 is1 && chkE (sc.blk scope) me e elt
    | none => false
  | .ixN nm _ e, .Call (.Attribute (.Name z _) m apos) [x] [] pos => decide (m = "index") && decide (nm = z) && globB sc z && notStar x && (apos.endLine == pos.line) && chkE sc me e x
  | .ixT nm _ b e, .Call (.Attribute (.Subscript (.Name z _) i _) m apos) [x] [] pos => decide (m = "index") && decide (nm = z) && globB sc z && notSlice i && notStar x && (apos.endLine == pos.line) && chkE sc me b i && chkE sc me e x
  | .and_ a es, .BoolOp .And (x :: xs) _ => chkE sc me a x && chkEs sc me es xs
  | .or_ a es, .BoolOp .Or (x :: xs) _ => chkE sc me a x && chkEs sc me es xs
  | .not_ a, .UnaryOp .Not x _ => chkE sc me a x
  | .ite t a b, .IfExp c x y _ => chkE sc me t c && chkE sc me a x && chkE sc me b y
  | .idx a b, .Subscript x y _ => notSlice y && chkE sc me a x && chkE sc me b y
  | .sl a lo hi, .Subscript x (.Slice l h none _) _ => chkE sc me a x && (match l with | none => isNob lo | some l => chkE sc me lo l && !(isNob lo)) && (match h with | none => isNob hi | some h => chkE sc me hi h && !(isNob hi))
  | .call fd es, .Call (.Name x _) as [] _ => decide (x = fd.nm) && decide (es.length = fd.np) && globB sc x && chkEs sc me es as
  | .self es, .Call (.Name x _) as [] _ => decide (x = me.nm) && decide (es.length = me.np) && globB sc x && chkEs sc me es as
  | .bi f es, .Call (.Name x _) as [] _ => sc.calm && biOn f && decide (x = biN f) && globB sc x && !(as.isEmpty) && chkEs sc me es as
  | .isI a ts, .Call (.Name x _) [l, r] [] _ => decide (x = "isinstance") && globB sc x && notStar r && !(ts.isEmpty) && decide (ts.length ≤ 100) && notStar l && tyAST ts r && (tyNames r).all (globB sc) && chkE sc me a l
  | .bm f a es, .Call (.Attribute o nm apos) as [] pos => bmOn f && decide (nm = bmN f) && plainB o && (apos.endLine == pos.line) && !(as.isEmpty) && decide (as.length < 20) && chkE sc me a o && chkEs sc me es as
  | .comp own pt it ifs e, .ListComp elt [⟨tg, iter, is, 0⟩] scope _ => sc.calm && notSet iter && decide (ifs.length ≤ 1) && decide ((ownP sc own).map (·.2) = own) && blkC sc.N sc.scope scope (ownP sc own) && (slots pt).all (fun j => own.contains j) &&
      chkI sc me it iter && chkP (sc.blk scope) me pt tg && chkEs (sc.blk scope) me ifs is && chkE (sc.blk scope) me e elt
  | .hIs c nm, x => hIsB sc c nm x
  | .hFld c f, x => hFldB sc c f x
  | .dead, _ => true
  | .act, x => actB sc x
  | .wlit k, x => wlitB sc me k x
  | .wat i e, .Call (.Name x _) [.Subscript (.Name y _) r _] [] _ => !(sc.lamA.isEmpty) && !(me.ws.isEmpty) && globB sc x && decide (sc.N[i]? = some y) && visB sc y && !(y == ("__debug__" : Str)) && !(y == ("__classdict__" : Str)) && notSlice r && me.ws.all (fun p => decide (p.2.1.nm = x)) && chkE sc me e r
  | _, _ => false
def chkEs (sc : Sc) (me : FnDef) : List E → List Expr → Bool
  | [], [] => true
  | e :: es, a :: as => notStar a && chkE sc me e a && chkEs sc me es as
  | _, _ => false
def chkP (sc : Sc) (me : FnDef) : Pt → Expr → Bool
  | .v i, .Name x _ => decide (sc.N[i]? = some x) && locB sc x
  | .tup ps, .Tuple ts _ _ => sc.calm && chkPs sc me ps ts
  | .idx a b, .Subscript o i _ => notSlice i && chkE sc me a o && chkE sc me b i
  | _, _ => false
def chkPs (sc : Sc) (me : FnDef) : List Pt → List Expr → Bool
  | [], [] => true
  | p :: ps, t :: ts => notStar t && chkP sc me p t && chkPs sc me ps ts
  | _, _ => false
def chkI (sc : Sc) (me : FnDef) : It → Expr → Bool
  | .e e, a => chkE sc me e a
  | .rng1 a, .Call (.Name x _) [l] [] _ => decide (x = "range") && globB sc x && notStar l && chkE sc me a l
  | .rng3 a b c, .Call (.Name x _) [l, r, t] [] _ => decide (x = "range") && globB sc x && notStar l && notStar r && notStar t && chkE sc me a l && chkE sc me b r && chkE sc me c t
  | .rng2 a b, .Call (.Name x _) [l, r] [] _ => decide (x = "range") && globB sc x && notStar l && notStar r && chkE sc me a l && chkE sc me b r
  | _, _ => false
end

mutual
/-- the defs and constants that an expression speaks of -/
def calE (P : FnDef → Prop) (G : Str → IV → Prop) (me : FnDef) : E → Prop
  | .v _ => True
  | .c _ => True
  | .nob => True
  | .g nm x => G nm x
  | .tup es => calEs P G me es
  | .lst es => calEs P G me es
  | .dic ks vs => calEs P G me ks ∧ calEs P G me vs
  | .bin _ a b => calE P G me a ∧ calE P G me b
  | .neg a => calE P G me a
  | .cmp _ a b => calE P G me a ∧ calE P G me b
  | .chain _ _ a b c => calE P G me a ∧ calE P G me b ∧ calE P G me c
  | .isN a => calE P G me a
  | .notN a => calE P G me a
  | .isB _ _ a => calE P G me a
  | .chain3 _ _ _ a b c d => calE P G me a ∧ calE P G me b ∧ calE P G me c ∧ calE P G me d
  | .ixof _ a e => calE P G me a ∧ calE P G me e
  | .cntB a e => calE P G me a ∧ calE P G me e
  | .dnew => True
  | .dget a ks => calE P G me a ∧ calEs P G me ks
  | .dgetD a ks d => calE P G me a ∧ calEs P G me ks ∧ calE P G me d
  | .din _ ks a => calEs P G me ks ∧ calE P G me a
  | .dsort a => calE P G me a
  | .kget a k => calE P G me a ∧ calE P G me k
  | .kgetD a k d => calE P G me a ∧ calE P G me k ∧ calE P G me d
  | .kin _ k a => calE P G me k ∧ calE P G me a
  | .knew => True
  | .kdisp ks vs => calEs P G me ks ∧ calEs P G me vs
  | .dmk a => calE P G me a
  | .dlist a => calE P G me a
  | .sortT a => calE P G me a
  | .comp2 _ _ pt it ifs pt1 it1 ifs1 e => calP P G me pt ∧ calI P G me it ∧ calEs P G me ifs ∧ calP P G me pt1 ∧ calI P G me it1 ∧ calEs P G me ifs1 ∧ calE P G me e
  | .ixN nm y e => G nm y ∧ calE P G me e
  | .ixT nm y i e => G nm y ∧ calE P G me i ∧ calE P G me e
  | .and_ a es => calE P G me a ∧ calEs P G me es
  | .or_ a es => calE P G me a ∧ calEs P G me es
  | .not_ a => calE P G me a
  | .ite t a b => calE P G me t ∧ calE P G me a ∧ calE P G me b
  | .idx a b => calE P G me a ∧ calE P G me b
  | .sl a lo hi => calE P G me a ∧ calE P G me lo ∧ calE P G me hi
  | .call fd es => P fd ∧ calEs P G me es
  | .self es => P me ∧ calEs P G me es
  | .bi _ es => calEs P G me es
  | .isI a _ => calE P G me a
  | .bm _ a es => calE P G me a ∧ calEs P G me es
  | .attr a _ _ _ => calE P G me a
  | .meth a _ fd es => calE P G me a ∧ P fd ∧ calEs P G me es
  | .make _ _ _ fd es => P fd ∧ calEs P G me es
  | .comp _ pt it ifs e => calP P G me pt ∧ calI P G me it ∧ calEs P G me ifs ∧ calE P G me e
  | .hIs _ _ => True
  | .hFld _ _ => True
  | .dead => True
  | .act => True
  | .wlit _ => True
  | .wat _ e => calE P G me e
def calEs (P : FnDef → Prop) (G : Str → IV → Prop) (me : FnDef) : List E → Prop
  | [] => True
  | e :: es => calE P G me e ∧ calEs P G me es
def calP (P : FnDef → Prop) (G : Str → IV → Prop) (me : FnDef) : Pt → Prop
  | .v _ => True
  | .tup ps => calPs P G me ps
  | .idx a b => calE P G me a ∧ calE P G me b
  | .attr a _ _ _ => calE P G me a
def calPs (P : FnDef → Prop) (G : Str → IV → Prop) (me : FnDef) : List Pt → Prop
  | [] => True
  | p :: ps => calP P G me p ∧ calPs P G me ps
def calI (P : FnDef → Prop) (G : Str → IV → Prop) (me : FnDef) : It → Prop
  | .e e => calE P G me e
  | .rng1 a => calE P G me a
  | .rng2 a b => calE P G me a ∧ calE P G me b
  | .rng3 a b c => calE P G me a ∧ calE P G me b ∧ calE P G me c
end

/-! ### where one stands -/
structure Good (γ : Gm) (X : Cx) (sc : Sc) (W : WX) : Prop where
  hK : X.K = γ.K
  calm : sc.calm = true → X.calm = true
  hu : X.A.units + 100 < cLine
  dp : X.A.depth + 2 < recursionLimit
  hN : X.N = sc.N
  nd : X.N.Nodup
  nm : X.env.scope = sc.scope
  kd : sc.scope.kind = .function
  st : ∀ x, locB sc x = true → L2.Loc X.env.scope x ∧ (X.fn x = true ∨ X.env.scope.names.lookup x = some .local)
  tk : Takes X W
  free : ∀ x ∈ bNames, X.mg x = none
def spI (γ : Gm) (G : Orc) (fd : FnDef) : Sp := fun vs H Q E => ∃ ρ st xs, Rep γ ρ st H ∧ RepVs γ ρ H xs vs ∧ xs.length = fd.np ∧ Aft γ ρ H (G fd xs st) Q E
structure CallOk (γ : Gm) (P : Program) (w : World) (K : PySem.W.Frag) (mg : Str → Option Value) (base : Heap) (A : Around) (G : Orc) (fd : FnDef) : Prop where
  ok : ∃ (f : Addr) (fdat : FuncData) (k : Nat), FnOk P w K mg base (L2.CX P w) k f fdat (fd.N.take fd.np) (spI γ G fd) ∧ Room k A ∧ mg fd.nm = some (.ref f) ∧ PySem.W.keepIn K (.ref f) = true ∧ Binds K fdat (fd.N.take fd.np) []
abbrev CallX (γ : Gm) (X : Cx) (G : Orc) (fd : FnDef) : Prop := CallOk γ X.prog X.w X.K X.mg X.base X.A G fd
def GcOk (γ : Gm) (mg : Str → Option Value) (nm : Str) (x : IV) : Prop := ∃ u v, mg nm = some u ∧ RelV v u ∧ RepV γ [] (fun _ => none) x v
theorem TupAt.const {ky : Bool} {K : PySem.W.Frag} {H : Hp} {a : Addr} {xs : List V} (h : TupAt ky K (fun _ => none) a xs) : TupAt ky K H a xs := by
  refine ⟨?_, .inr (h.or.elim (fun ⟨_, z⟩ => by cases z) id), fun z => by cases h.ky z⟩
  rcases h.sq with (z | ⟨_, z⟩) | told
  · cases z
  · cases z
  · exact .inr told
theorem FrzAt.const {K : PySem.W.Frag} {H : Hp} {a : Addr} {xs : List V} (h : FrzAt K (fun _ => none) a xs) : FrzAt K H a xs := .inr (h.elim (fun ⟨_, z⟩ => by cases z) id)
mutual
theorem RepV.const {γ : Gm} {ρ : List Addr} {H : Hp} : ∀ {x : IV} {v : V}, RepV γ [] (fun _ => none) x v → RepV γ ρ H x v
  | .non, _, h => h
  | .bl _, _, h => h
  | .int _, _, h => h
  | .str _, _, h => h
  | .tup xs, _, h => by
    simp only [RepV] at h ⊢
    obtain ⟨a, vs, rfl, h1, h2⟩ := h
    exact ⟨a, vs, rfl, h1.const, RepVs.const h2⟩
  | .frz ns, _, h => by
    simp only [RepV] at h ⊢
    obtain ⟨a, rfl, h1⟩ := h
    exact ⟨a, rfl, h1.const⟩
  | .ref r, _, h => by simp [RepV] at h
theorem RepVs.const {γ : Gm} {ρ : List Addr} {H : Hp} : ∀ {x : List IV} {v : List V}, RepVs γ [] (fun _ => none) x v → RepVs γ ρ H x v
  | [], _, h => h
  | x :: xs, _, h => by
    simp only [RepVs] at h ⊢
    obtain ⟨w, ws, rfl, h1, h2⟩ := h
    exact ⟨w, ws, rfl, h1.const, RepVs.const h2⟩
end
section
variable {γ : Gm} {X : Cx} {sc : Sc} {W : WX}
theorem Good.vis (g : Good γ X sc W) {x : Str} (h : visB sc x = true) : Vis X.env.scope x := by
  unfold visB at h
  unfold Vis
  rw [g.nm]
  split at h
  · exact .inl ‹_›
  · exact .inr (.inl ‹_›)
  · exact .inr (.inr ‹_›)
  · cases h
theorem Good.gl (g : Good γ X sc W) {x : Str} (h : globB sc x = true) : Gl X x ∧ (x == ("__debug__" : Str)) = false ∧ x ≠ ("__name__" : Str) := by
  unfold globB at h
  split at h
  · rename_i e
    simp only [Bool.and_eq_true, Bool.not_eq_true'] at h
    refine ⟨?_, h.1, fun z => ?_⟩
    · show X.env.kindOf x = _
      unfold PySem.Env.kindOf
      rw [g.nm]; exact e
    · rw [z] at h; simp at h
  · cases h
theorem star_one {e : Expr} (h : notStar e = true) (es : List Expr) (env : PySem.Env) : starEach (e :: es) env = (false, eval e env) :: starEach es env := by
  cases e <;> first | rfl | simp [notStar] at h
theorem chkEs_star {me : FnDef} : ∀ {es : List E} {as : List Expr}, chkEs sc me es as = true → as.all notStar = true
  | [], [], _ => rfl
  | [], _ :: _, h => by simp [chkEs] at h
  | _ :: _, [], h => by simp [chkEs] at h
  | e :: es, a :: as, h => by
    simp only [chkEs, Bool.and_eq_true] at h
    simp only [List.all_cons, Bool.and_eq_true]
    exact ⟨h.1.1, chkEs_star h.2⟩
theorem stars_plain : ∀ {as : List Expr} {env : PySem.Env} {pos : Pos}, as.all notStar = true → (backTo pos (starEach as env)).any (·.1) = false
  | [], _, _, _ => rfl
  | a :: as, env, pos, h => by
    simp only [List.all_cons, Bool.and_eq_true] at h
    rw [star_one h.1]
    have := stars_plain (env := env) (pos := pos) h.2
    simp only [backTo, List.map_cons, List.any_cons, Bool.false_or] at this ⊢
    exact this

/-! ### one construct, one lemma -/
theorem s_var {G : Orc} {me : FnDef} {hx : HX} {i : Nat} {x : Str} {pos : Pos} (g : Good γ X sc W) (h : chkE sc me (.v i) (.Name x pos) = true) : PE X (.Name x pos) (tI γ W hx (evE G me (.v i))) := by
  simp only [chkE, Bool.and_eq_true, decide_eq_true_eq, Bool.not_eq_true'] at h
  refine PE.imp (pe_var (i := i) (by rw [g.hN]; exact h.1.1.1) (g.vis h.1.1.2) h.1.2 h.2) fun σ H Q hq => ?_
  obtain ⟨ρ, env, st, _, R, Re, A⟩ := hq
  simp only [evE] at A
  split at A
  · rename_i y ey
    obtain ⟨v, h1, h2⟩ := Re.sl i y ey
    exact ⟨v, h1, A.val R h2⟩
  · exact A.elim
theorem s_con {G : Orc} {me : FnDef} {hx : HX} {y : IV} {c : Const} {k : Nat} {pos : Pos} (h : cOf c y = true) : PE X (.Constant c k pos) (tI γ W hx (evE G me (.c y))) := by
  have key : ∀ {v : V}, (∀ ρ H, RepV γ ρ H y v) → ∀ σ H Q, tI γ W hx (evE G me (.c y)) σ H Q → tC v σ H Q := fun {v} hv σ H Q hq => by
    obtain ⟨ρ, env, st, _, R, Re, A⟩ := hq
    simp only [evE] at A
    exact A.val R (hv ρ H)
  unfold cOf at h
  split at h
  · exact PE.imp pe_non (key fun _ _ => rfl)
  · rw [beq_iff_eq] at h; subst h; exact PE.imp pe_bl (key fun _ _ => rfl)
  · rw [beq_iff_eq] at h; subst h; exact PE.imp pe_int (key fun _ _ => rfl)
  · rw [decide_eq_true_eq] at h; subst h; exact PE.imp pe_str (key fun _ _ => rfl)
  · cases h
theorem s_glob {G : Orc} {me : FnDef} {hx : HX} {nm : Str} {y : IV} {pos : Pos} (g : Good γ X sc W) (h : globB sc nm = true) (hg : GcOk γ X.mg nm y) : PE X (.Name nm pos) (tI γ W hx (evE G me (.g nm y))) := by
  obtain ⟨u, v, h1, h2, h3⟩ := hg
  obtain ⟨q1, q2, q3⟩ := g.gl h
  refine PE.imp (pe_glob q1 h1 h2 q2) fun σ H Q hq => ?_
  obtain ⟨ρ, env, st, _, R, Re, A⟩ := hq
  simp only [evE] at A
  exact A.val R h3.const
/-- two operands, then values -/
theorem two_step {ma mb : Env → Store → Res TV} {f : TV → TV → Store → Res TV} {hx : HX} {σ : L2.St} {H : Hp} {Q : VK} {rr : V → V → Hp → VK → Prop}
    (hr : ∀ ρ st x y H v w E, Rep γ ρ st H → RepT γ ρ H x v → RepT γ ρ H y w → Aft γ ρ H (f x y st) Q E → rr v w H Q)
    (h : tI γ W hx (fun env st => (ma env st).bind fun x st => (mb env st).bind fun y st => f x y st) σ H Q) : tI γ W hx ma σ H fun v H1 => tI γ W hx mb σ H1 fun w H2 => rr v w H2 Q := by
  obtain ⟨ρ, env, st, hh, R, Re, A⟩ := h
  refine ⟨ρ, env, st, hh, R, Re, A.bind.imp fun v H1 h1 => ?_⟩
  obtain ⟨ρ1, st1, x, e1, R1, T1, fr1, A1⟩ := h1
  refine ⟨ρ1, env, st1, hh, R1, Re.mono R e1, (A1.ext e1).bind.imp fun w H2 h2 => ?_⟩
  obtain ⟨ρ2, st2, y, e3, R2, T2, fr2, A2⟩ := h2
  exact hr ρ2 st2 x y H2 v w _ R2 (T1.mono R1 e3) T2 (A2.ext e3)
theorem one_step {ma : Env → Store → Res TV} {f : TV → Store → Res TV} {hx : HX} {σ : L2.St} {H : Hp} {Q : VK} {rr : V → Hp → Prop}
    (hr : ∀ ρ st x H v E, Rep γ ρ st H → RepT γ ρ H x v → Aft γ ρ H (f x st) Q E → rr v H)
    (h : tI γ W hx (fun env st => (ma env st).bind fun x st => f x st) σ H Q) : tI γ W hx ma σ H rr := by
  obtain ⟨ρ, env, st, hh, R, Re, A⟩ := h
  refine ⟨ρ, env, st, hh, R, Re, A.bind.imp fun v H1 h1 => ?_⟩
  obtain ⟨ρ1, st1, x, e1, R1, T1, fr1, A1⟩ := h1
  exact hr ρ1 st1 x H1 v _ R1 T1 (A1.ext e1)
/-- an outcome followed by more of the same expression -/
def More (γ : Gm) (W : WX) (hx : HX) (σ : L2.St) (f : TV → Env → Store → Res TV) (Q : VK) (v : V) (H1 : Hp) : Prop :=
  ∃ ρ0 H0 ρ env st x, hx env.hx σ ∧ Ext ρ0 H0 ρ H1 ∧ Rep γ ρ st H1 ∧ REnv γ hx ρ H1 env σ ∧ RepT γ ρ H1 x v ∧ (∀ a ∈ ownA x v, H0 a = none) ∧ Aft γ ρ0 H0 (f x env st) Q (fun cls d H' => W cls d σ H')
theorem more_step {ma : Env → Store → Res TV} {f : TV → Env → Store → Res TV} {hx : HX} {σ : L2.St} {H : Hp} {Q : VK}
    (h : tI γ W hx (fun env st => (ma env st).bind fun x st => f x env st) σ H Q) : tI γ W hx ma σ H (More γ W hx σ f Q) := by
  obtain ⟨ρ, env, st, hh, R, Re, A⟩ := h
  refine ⟨ρ, env, st, hh, R, Re, A.bind.imp fun v H1 h1 => ?_⟩
  obtain ⟨ρ1, st1, x, e1, R1, T1, fr1, A1⟩ := h1
  exact ⟨ρ, H, ρ1, env, st1, x, hh, e1, R1, Re.mono R e1, T1, fr1, A1⟩
theorem more_tI {m : Env → Store → Res TV} {f : TV → Env → Store → Res TV} {hx : HX} {σ : L2.St} {H : Hp} {Q : VK} {v : V} (h : More γ W hx σ f Q v H) (hm : ∀ x env st, RepT γ [] H x v ∨ True → f x env st = m env st) : tI γ W hx m σ H Q := by
  obtain ⟨ρ0, H0, ρ, env, st, x, hh, e0, R, Re, T, fr, A⟩ := h
  rw [hm x env st (.inr trivial)] at A
  exact ⟨ρ, env, st, hh, R, Re, A.ext e0⟩
theorem s_bin {G : Orc} {me : FnDef} {hx : HX} {op : BOp} {a b : E} {l r : Expr} {pos : Pos} (g : Good γ X sc W) (ha : PE X l (tI γ W hx (evE G me a))) (hb : PE X r (tI γ W hx (evE G me b))) :
    PE X (.BinOp l (bAST op) r pos) (tI γ W hx (evE G me (.bin op a b))) := by
  refine PE.imp (pe_op (opr_bin g.hK op) ha hb) fun σ H Q h => ?_
  simp only [evE] at h
  exact two_step (rr := fun v w H Q => rBin γ op v w H Q) (fun ρ st x y H v w E R T1 T2 A => ⟨ρ, st, x, y, E, R, T1, T2, A⟩) h
theorem s_cmp {G : Orc} {me : FnDef} {hx : HX} {op : COp} {a b : E} {l r : Expr} {pos : Pos} (g : Good γ X sc W) (hm : behindInMarks (cAST op) r = false) (ha : PE X l (tI γ W hx (evE G me a))) (hb : PE X r (tI γ W hx (evE G me b))) :
    PE X (.Compare l [cAST op] [r] pos) (tI γ W hx (evE G me (.cmp op a b))) := by
  refine PE.imp (pe_cmpR (opr_cmp g.hK g.hu op) ha hb hm) fun σ H Q h => ?_
  simp only [evE] at h
  exact two_step (rr := fun v w H Q => rCmpB γ op v w H Q) (fun ρ st x y H v w E R T1 T2 A => ⟨ρ, st, x, y, E, R, T1, T2, A⟩) h
theorem s_cmpT {G : Orc} {me : FnDef} {hx : HX} {op : COp} {a b : E} {l r : Expr} {pos : Pos} (g : Good γ X sc W) (hm : behindInMarks (cAST op) r = false) (ha : PE X l (tI γ W hx (evE G me a))) (hb : PE X r (tI γ W hx (evE G me b))) :
    PT X (.Compare l [cAST op] [r] pos) (tB (tI γ W hx (evE G me (.cmp op a b)))) := by
  refine PT.imp (pt_cmpR (opr_cmp g.hK g.hu op) ha hb hm) fun σ H Q h => ?_
  simp only [tB, evE] at h
  exact two_step (rr := fun v w H Q => rCmpB γ op v w H Q) (fun ρ st x y H v w E R T1 T2 A => ⟨ρ, st, x, y, E, R, T1, T2, A⟩) h
theorem s_neg {G : Orc} {me : FnDef} {hx : HX} {a : E} {l : Expr} {pos : Pos} (ha : PE X l (tI γ W hx (evE G me a))) : PE X (.UnaryOp .USub l pos) (tI γ W hx (evE G me (.neg a))) := by
  refine PE.imp (pe_un un_neg ha) fun σ H Q h => ?_
  simp only [evE] at h
  refine one_step (fun ρ st x H v E R T A => ?_) h
  split at A
  · simp only [RepT, RepV] at T; subst T
    exact ⟨_, rfl, A.val R rfl⟩
  · exact A.elim
theorem s_isN {G : Orc} {me : FnDef} {hx : HX} {a : E} {l : Expr} {j : Nat} {p pos : Pos} (ha : PE X l (tI γ W hx (evE G me a))) : PC X .Is l (.Constant .none j p) (tI γ W hx (evE G me (.isN a))) := by
  refine ⟨fun pins s σ H Q I h => (pc_isN ha).run pins s σ H Q I ?_⟩
  simp only [evE] at h
  refine one_step (fun ρ st x H v E R T A => ?_) h
  split at A
  · simp only [RepT, RepV] at T; subst T
    exact A.val R rfl
  · rename_i y hy
    have hv : decide (v = .non) = false := decide_eq_false fun e => by
      subst e
      cases y with
      | non => exact hy rfl
      | tup _ => simp only [RepT, RepV] at T; obtain ⟨_, _, e, _⟩ := T; cases e
      | frz _ => simp only [RepT, RepV] at T; obtain ⟨_, e, _⟩ := T; cases e
      | ref _ => simp only [RepT, RepV] at T; obtain ⟨_, _, e⟩ := T; cases e
      | _ => simp only [RepT, RepV] at T; cases T
    rw [hv]
    exact A.val R rfl
  · exact A.elim
theorem s_notN {G : Orc} {me : FnDef} {hx : HX} {a : E} {l : Expr} {j : Nat} {p pos : Pos} (ha : PE X l (tI γ W hx (evE G me a))) : PC X .IsNot l (.Constant .none j p) (tI γ W hx (evE G me (.notN a))) := by
  refine ⟨fun pins s σ H Q I h => (pc_notN ha).run pins s σ H Q I ?_⟩
  simp only [evE] at h
  refine one_step (fun ρ st x H v E R T A => ?_) h
  split at A
  · simp only [RepT, RepV] at T; subst T
    exact A.val R rfl
  · rename_i y hy
    have hv : decide (v = .non) = false := decide_eq_false fun e => by
      subst e
      cases y with
      | non => exact hy rfl
      | tup _ => simp only [RepT, RepV] at T; obtain ⟨_, _, e, _⟩ := T; cases e
      | frz _ => simp only [RepT, RepV] at T; obtain ⟨_, e, _⟩ := T; cases e
      | ref _ => simp only [RepT, RepV] at T; obtain ⟨_, _, e⟩ := T; cases e
      | _ => simp only [RepT, RepV] at T; cases T
    rw [hv]
    exact A.val R rfl
  · exact A.elim
theorem boolOf_rep {ρ : List Addr} {H : Hp} {x : TV} {v : V} {b : Bool} (T : RepT γ ρ H x v) (h : boolOf x = some b) : v = .bl b := by
  unfold boolOf at h
  split at h
  · cases h; exact T
  · cases h
theorem s_not {G : Orc} {me : FnDef} {hx : HX} {a : E} {l : Expr} {pos : Pos} (ha : PE X l (tI γ W hx (evE G me a))) : PE X (.UnaryOp .Not l pos) (tI γ W hx (evE G me (.not_ a))) := by
  refine PE.imp (pe_not ha) fun σ H Q h => ?_
  simp only [evE] at h
  refine one_step (fun ρ st x H v E R T A => ?_) h
  split at A
  · exact ⟨_, boolOf_rep T ‹_›, A.val R rfl⟩
  · exact A.elim
theorem s_notT {G : Orc} {me : FnDef} {hx : HX} {a : E} {l : Expr} {pos : Pos} (ha : PT X l (tB (tI γ W hx (evE G me a)))) : PT X (.UnaryOp .Not l pos) (tB (tI γ W hx (evE G me (.not_ a)))) := by
  refine PT.imp (pt_not ha) fun σ H Q h => ?_
  simp only [tB, evE] at h
  refine one_step (fun ρ st x H v E R T A => ?_) h
  split at A
  · obtain ⟨c, ec, q⟩ := A.val R (v := .bl _) rfl
    cases ec
    exact ⟨_, boolOf_rep T ‹_›, q⟩
  · exact A.elim
theorem s_ite {G : Orc} {me : FnDef} {hx : HX} {t a b : E} {c l r : Expr} {pos : Pos} (ht : PT X c (tB (tI γ W hx (evE G me t)))) (ha : PE X l (tI γ W hx (evE G me a))) (hb : PE X r (tI γ W hx (evE G me b))) :
    PE X (.IfExp c l r pos) (tI γ W hx (evE G me (.ite t a b))) := by
  refine PE.imp (pe_ifExp ht ha hb) fun σ H Q h => ?_
  simp only [evE] at h
  obtain ⟨ρ, env, st, hh, R, Re, A⟩ := h
  refine ⟨ρ, env, st, hh, R, Re, A.bind.imp fun v H1 h1 => ?_⟩
  obtain ⟨ρ1, st1, x, e1, R1, T1, fr1, A1⟩ := h1
  split at A1
  · exact ⟨true, boolOf_rep T1 ‹_›, iteT ⟨ρ1, env, st1, hh, R1, Re.mono R e1, A1.ext e1⟩⟩
  · exact ⟨false, boolOf_rep T1 ‹_›, iteF ⟨ρ1, env, st1, hh, R1, Re.mono R e1, A1.ext e1⟩⟩
  · exact A1.elim
theorem s_iteT {G : Orc} {me : FnDef} {hx : HX} {t a b : E} {c l r : Expr} {pos : Pos} (ht : PT X c (tB (tI γ W hx (evE G me t)))) (ha : PT X l (tB (tI γ W hx (evE G me a)))) (hb : PT X r (tB (tI γ W hx (evE G me b)))) :
    PT X (.IfExp c l r pos) (tB (tI γ W hx (evE G me (.ite t a b)))) := by
  refine ⟨fun pins s σ H Q I h => ?_⟩
  simp only [tB, evE] at h
  obtain ⟨ρ, env, st, hh, R, Re, A⟩ := h
  refine PyProof.Rows.isTrue_IfExp (thn (ht.run pins s σ H (fun b H1 => if b = true then tB (tI γ W hx (evE G me a)) σ H1 Q else tB (tI γ W hx (evE G me ‹E›)) σ H1 Q) I ⟨ρ, env, st, hh, R, Re, A.bind.imp fun v H1 h1 => ?_⟩) fun d s1 ⟨H1, I1, q1⟩ => ?_)
  · obtain ⟨ρ1, st1, x, e1, R1, T1, fr1, A1⟩ := h1
    split at A1
    · exact ⟨true, boolOf_rep T1 ‹_›, iteT ⟨ρ1, env, st1, hh, R1, Re.mono R e1, A1.ext e1⟩⟩
    · exact ⟨false, boolOf_rep T1 ‹_›, iteF ⟨ρ1, env, st1, hh, R1, Re.mono R e1, A1.ext e1⟩⟩
    · exact A1.elim
  · simp only at q1
    by_cases yes : d = true
    · rw [if_pos yes] at q1 ⊢
      exact ha.run _ _ _ _ _ I1 q1
    · rw [if_neg yes] at q1 ⊢
      exact hb.run _ _ _ _ _ I1 q1

/-! ### and, or -/
theorem more_and {G : Orc} {me : FnDef} {hx : HX} {b : E} {es : List E} {σ : L2.St} {H : Hp} {Q : VK} {v : V} (h : More γ W hx σ (fun x env st => evAnd G me x (b :: es) env st) Q v H) :
    ∃ c, v = .bl c ∧ if c = true then tI γ W hx (fun env st => (evE G me b env st).bind fun y st => evAnd G me y es env st) σ H Q else Q (.bl false) H := by
  obtain ⟨ρ0, H0, ρ, env, st, x, hh, e0, R, Re, T, fr, A⟩ := h
  simp only [evAnd] at A
  split at A
  · exact ⟨true, boolOf_rep T ‹_›, iteT ⟨ρ, env, st, hh, R, Re, A.ext e0⟩⟩
  · exact ⟨false, boolOf_rep T ‹_›, iteF ((A.ext e0).val R rfl)⟩
  · exact A.elim
theorem more_or {G : Orc} {me : FnDef} {hx : HX} {b : E} {es : List E} {σ : L2.St} {H : Hp} {Q : VK} {v : V} (h : More γ W hx σ (fun x env st => evOr G me x (b :: es) env st) Q v H) :
    ∃ c, v = .bl c ∧ if c = true then Q (.bl true) H else tI γ W hx (fun env st => (evE G me b env st).bind fun y st => evOr G me y es env st) σ H Q := by
  obtain ⟨ρ0, H0, ρ, env, st, x, hh, e0, R, Re, T, fr, A⟩ := h
  simp only [evOr] at A
  split at A
  · exact ⟨false, boolOf_rep T ‹_›, iteF ⟨ρ, env, st, hh, R, Re, A.ext e0⟩⟩
  · exact ⟨true, boolOf_rep T ‹_›, iteT ((A.ext e0).val R rfl)⟩
  · exact A.elim
theorem more_last {hx : HX} {m : Env → Store → Res TV} {σ : L2.St} {H : Hp} {Q : VK} (h : tI γ W hx (fun env st => (m env st).bind fun x st => .ok x st) σ H Q) : tI γ W hx m σ H Q := by
  obtain ⟨ρ, env, st, hh, R, Re, A⟩ := h
  refine ⟨ρ, env, st, hh, R, Re, ?_⟩
  have A : Aft γ ρ H ((m env st).bind fun x st => .ok x st) Q (fun cls d H' => W cls d σ H') := A
  cases hm : m env st with
  | ok x s => rw [hm] at A; exact A
  | exc x s => rw [hm] at A; exact A
  | bad => rw [hm] at A; exact A
/-- each of a list of parts is sound -/
inductive AllE (γ : Gm) (X : Cx) (W : WX) (hx : HX) (G : Orc) (me : FnDef) : List E → List Expr → Prop
  | nil : AllE γ X W hx G me [] []
  | cons {e : E} {a : Expr} {es : List E} {as : List Expr} (h : PE X a (tI γ W hx (evE G me e))) (ht : PT X a (tB (tI γ W hx (evE G me e)))) (t : AllE γ X W hx G me es as) : AllE γ X W hx G me (e :: es) (a :: as)
theorem s_and {G : Orc} {me : FnDef} {hx : HX} {pos : Pos} : ∀ {es : List E} {as : List Expr} {e : E} {a : Expr}, PE X a (tI γ W hx (evE G me e)) → AllE γ X W hx G me es as →
    PE X (.BoolOp .And (a :: as) pos) (tI γ W hx (fun env st => (evE G me e env st).bind fun x st => evAnd G me x es env st))
  | [], _, e, a, ha, .nil => PE.imp (pe_one ha) fun σ H Q h => more_last (by simpa only [evAnd] using h)
  | _ :: _, _, e, a, ha, .cons h1 _ t => PE.imp (pe_and ha (s_and h1 t)) fun σ H Q h => by
    obtain ⟨ρ, env, st, hh, R, Re, A⟩ := more_step h
    exact ⟨ρ, env, st, hh, R, Re, A.imp fun v H1 q => more_and q⟩
theorem s_or {G : Orc} {me : FnDef} {hx : HX} {pos : Pos} : ∀ {es : List E} {as : List Expr} {e : E} {a : Expr}, PE X a (tI γ W hx (evE G me e)) → AllE γ X W hx G me es as →
    PE X (.BoolOp .Or (a :: as) pos) (tI γ W hx (fun env st => (evE G me e env st).bind fun x st => evOr G me x es env st))
  | [], _, e, a, ha, .nil => PE.imp (pe_one ha) fun σ H Q h => more_last (by simpa only [evOr] using h)
  | _ :: _, _, e, a, ha, .cons h1 _ t => PE.imp (pe_or ha (s_or h1 t)) fun σ H Q h => by
    obtain ⟨ρ, env, st, hh, R, Re, A⟩ := more_step h
    exact ⟨ρ, env, st, hh, R, Re, A.imp fun v H1 q => more_or q⟩
theorem s_andT {G : Orc} {me : FnDef} {hx : HX} {pos : Pos} : ∀ {es : List E} {as : List Expr} {e : E} {a : Expr}, PT X a (tB (tI γ W hx (evE G me e))) → AllE γ X W hx G me es as →
    PW X (.BoolOp .And (a :: as) pos) (tB (tI γ W hx (fun env st => (evE G me e env st).bind fun x st => evAnd G me x es env st)))
  | [], _, e, a, ha, .nil => ⟨fun wh pins s σ H Q I h => (pw_and1 ha).run wh pins s σ H Q I (more_last (by simpa only [evAnd, tB] using h))⟩
  | _ :: _, _, e, a, ha, .cons _ h1 t => ⟨fun wh pins s σ H Q I h => (pw_and ha (s_andT h1 t)).run wh pins s σ H Q I (by
    obtain ⟨ρ, env, st, hh, R, Re, A⟩ := more_step (show tI γ W hx _ σ H _ from h)
    refine ⟨ρ, env, st, hh, R, Re, A.imp fun v H1 q => ?_⟩
    obtain ⟨c, ec, q⟩ := more_and q
    refine ⟨c, ec, ?_⟩
    cases c with
    | true => rw [if_pos rfl] at q; exact iteT q
    | false =>
      rw [if_neg Bool.false_ne_true] at q
      have q2 : ∃ c, V.bl false = .bl c ∧ Q c H1 := q
      obtain ⟨d, ed, q3⟩ := q2
      cases ed
      exact iteF q3)⟩
theorem s_orT {G : Orc} {me : FnDef} {hx : HX} {pos : Pos} : ∀ {es : List E} {as : List Expr} {e : E} {a : Expr}, PT X a (tB (tI γ W hx (evE G me e))) → AllE γ X W hx G me es as →
    PW X (.BoolOp .Or (a :: as) pos) (tB (tI γ W hx (fun env st => (evE G me e env st).bind fun x st => evOr G me x es env st)))
  | [], _, e, a, ha, .nil => ⟨fun wh pins s σ H Q I h => (pw_or1 ha).run wh pins s σ H Q I (more_last (by simpa only [evOr, tB] using h))⟩
  | _ :: _, _, e, a, ha, .cons _ h1 t => ⟨fun wh pins s σ H Q I h => (pw_or ha (s_orT h1 t)).run wh pins s σ H Q I (by
    obtain ⟨ρ, env, st, hh, R, Re, A⟩ := more_step (show tI γ W hx _ σ H _ from h)
    refine ⟨ρ, env, st, hh, R, Re, A.imp fun v H1 q => ?_⟩
    obtain ⟨c, ec, q⟩ := more_or q
    refine ⟨c, ec, ?_⟩
    cases c with
    | false => rw [if_neg Bool.false_ne_true] at q; exact iteF q
    | true =>
      rw [if_pos rfl] at q
      have q2 : ∃ c, V.bl true = .bl c ∧ Q c H1 := q
      obtain ⟨d, ed, q3⟩ := q2
      cases ed
      exact iteT q3)⟩

/-! ### a chain of two comparisons -/
theorem chain_step {G : Orc} {me : FnDef} {hx : HX} {o1 o2 : COp} {a b c : E} {σ : L2.St} {H : Hp} {Q : VK} (h : tI γ W hx (evE G me (.chain o1 o2 a b c)) σ H Q) :
    tChain (rCmpB γ o1) (rCmpB γ o2) (tI γ W hx (evE G me a)) (tI γ W hx (evE G me b)) (tI γ W hx (evE G me c)) σ H Q := by
  simp only [evE] at h
  obtain ⟨ρ, env, st, hh, R, Re, A⟩ := h
  refine ⟨ρ, env, st, hh, R, Re, A.bind.imp fun v H1 h1 => ?_⟩
  obtain ⟨ρ1, st1, x, e1, R1, T1, fr1, A1⟩ := h1
  refine ⟨ρ1, env, st1, hh, R1, Re.mono R e1, (A1.ext e1).bind.imp fun w H2 h2 => ?_⟩
  obtain ⟨ρ2, st2, y, e3, R2, T2, fr2, A2⟩ := h2
  refine ⟨ρ2, st2, x, y, _, R2, T1.mono R1 e3, T2, (A2.ext e3).bind.imp fun z H3 h3 => ?_⟩
  obtain ⟨ρ3, st3, k, e4, R3, T3, fr3, A3⟩ := h3
  split at A3
  · refine ⟨true, boolOf_rep T3 ‹_›, iteT ?_⟩
    have Re3 := (((Re.mono R e1).mono R1 e3).mono R2 e4)
    refine ⟨ρ3, env, st3, hh, R3, Re3, (A3.ext e4).bind.imp fun u H4 h4 => ?_⟩
    obtain ⟨ρ4, st4, z', e5, R4, T4, fr4, A4⟩ := h4
    exact ⟨ρ4, st4, y, z', _, R4, (T2.mono R2 e4).mono R3 e5, T4, A4.ext e5⟩
  · exact ⟨false, boolOf_rep T3 ‹_›, iteF ((A3.ext e4).val R3 rfl)⟩
  · exact A3.elim

/-! ### argument lists -/
theorem s_args {G : Orc} {me : FnDef} {hx : HX} : ∀ {es : List E} {as : List Expr}, AllE γ X W hx G me es as → as.all notStar = true → PA X as (tIL γ W hx (evEs G me es))
  | [], _, .nil, _ => PA.imp pa_nil fun σ H Q h => by
    obtain ⟨ρ, env, st, hh, R, Re, A⟩ := h
    simp only [evEs] at A
    exact A ρ H [] (.refl ρ H) R rfl (by simp [ownAs]) (by simp [ownAs])
  | e :: es, a :: as, .cons h1 _ t, hs => by
    simp only [List.all_cons, Bool.and_eq_true] at hs
    refine PA.imp (pa_cons h1 (s_args t hs.2) (star_one hs.1 _ _)) fun σ H Q h => ?_
    obtain ⟨ρ, env, st, hh, R, Re, A⟩ := h
    simp only [evEs] at A
    have A' : Aft γ ρ H (evE G me e env st) (fun v H1 => ∃ ρ1 st1 x, Ext ρ H ρ1 H1 ∧ Rep γ ρ1 st1 H1 ∧ RepT γ ρ1 H1 x v ∧ (∀ a ∈ ownA x v, H a = none) ∧ AftL γ ρ H ((evEs G me es env st1).bind fun xs st => .ok (x :: xs) st) Q (fun cls d H' => W cls d σ H')) (fun cls d H' => W cls d σ H') := by
      cases hm : evE G me e env st with
      | ok x s => rw [hm] at A; exact fun ρ' H' v e R T o => ⟨ρ', s, x, e, R, T, o, A⟩
      | exc x s => rw [hm] at A; exact A
      | bad => rw [hm] at A; exact A
    refine ⟨ρ, env, st, hh, R, Re, A'.imp fun v H1 h1 => ?_⟩
    obtain ⟨ρ1, st1, x, e1, R1, T1, fr1, A1⟩ := h1
    refine ⟨ρ1, env, st1, hh, R1, Re.mono R e1, ?_⟩
    cases hm : evEs G me es env st1 with
    | ok xs s2 =>
      rw [hm] at A1
      intro ρ2 H2 vs e2 R2 T2 n2 o2
      refine A1 ρ2 H2 (v :: vs) (e1.trans e2) R2 (by simp only [RepTs]; exact ⟨_, _, rfl, T1.mono R1 e2, T2⟩) ?_ ?_
      · simp only [ownAs, List.nodup_append]
        refine ⟨?_, n2, fun b hb c hc => ?_⟩
        · cases x with
          | v _ => simp [ownA]
          | l _ => obtain ⟨_, _, rfl, _⟩ := T1; simp [ownA]
          | s _ => exact T1.elim
          | d _ => exact T1.elim
        · rintro rfl
          exact (T1.own hb).2 (o2 b hc)
      · intro b hb
        simp only [ownAs, List.mem_append] at hb
        exact hb.elim (fr1 b) (fun z => e1.back b (o2 b z))
    | exc x s2 =>
      rw [hm] at A1
      exact fun ρ2 H2 cls d e2 R2 X2 => A1 ρ2 H2 cls d (e1.trans e2) R2 X2
    | bad => rw [hm] at A1; exact A1
/-- .. and settled -/
theorem mats_step {ρ0 : List Addr} {H0 : Hp} {ρ : List Addr} {H : Hp} {st : Store} {xs : List TV} {vs : List V} {f : List IV → Store → Res TV} {Q : VK} {E : XK} (e0 : Ext ρ0 H0 ρ H) (R : Rep γ ρ st H) (T : RepTs γ ρ H xs vs) (n : (ownAs xs vs).Nodup) (o : ∀ a ∈ ownAs xs vs, H0 a = none)
    (A : Aft γ ρ0 H0 ((mats xs st).bind f) Q E) : ∃ ρ' ys st', Ext ρ0 H0 ρ' H ∧ Rep γ ρ' st' H ∧ RepVs γ ρ' H ys vs ∧ Aft γ ρ0 H0 (f ys st') Q E := by
  cases hm : mats xs st with
  | ok ys st' =>
    rw [hm] at A
    obtain ⟨R1, r1⟩ := mats_ok R T n hm
    exact ⟨_, ys, st', e0.mat o, R1, r1, A⟩
  | exc _ _ => exact absurd hm mats_noexc
  | bad => rw [hm] at A; exact A.elim
theorem s_tup {G : Orc} {me : FnDef} {hx : HX} {es : List E} {as : List Expr} {k : Nat} {pos : Pos} (h : AllE γ X W hx G me es as) (hs : as.all notStar = true) : PE X (.Tuple as k pos) (tI γ W hx (evE G me (.tup es))) := by
  refine PE.imp (pe_tup (s_args h hs)) fun σ H Q q => ?_
  obtain ⟨ρ, env, st, hh, R, Re, A⟩ := q
  simp only [evE] at A
  refine ⟨ρ, env, st, hh, R, Re, ?_⟩
  have A' := A.bindL
  cases hm : evEs G me es env st with
  | ok xs s =>
    rw [hm] at A
    intro ρ1 H1 vs e1 R1 T1 n1 o1
    obtain ⟨ρ2, ys, st2, e2, R2, r2, A2⟩ := mats_step e1 R1 T1 n1 o1 A
    split at A2
    · rename_i hl
      exact ⟨by rw [r2.length, sizeLine_n]; exact hl, (A2.ext e2).newT R2 r2⟩
    · exact A2.elim
  | exc _ _ => rw [hm] at A; exact A
  | bad => rw [hm] at A; exact A
theorem s_lst {G : Orc} {me : FnDef} {hx : HX} {es : List E} {as : List Expr} {pos : Pos} (h : AllE γ X W hx G me es as) (hs : as.all notStar = true) : PE X (.List as pos) (tI γ W hx (evE G me (.lst es))) := by
  refine PE.imp (pe_lst (s_args h hs)) fun σ H Q q => ?_
  obtain ⟨ρ, env, st, hh, R, Re, A⟩ := q
  simp only [evE] at A
  refine ⟨ρ, env, st, hh, R, Re, ?_⟩
  cases hm : evEs G me es env st with
  | ok xs s =>
    rw [hm] at A
    intro ρ1 H1 vs e1 R1 T1 n1 o1
    obtain ⟨ρ2, ys, st2, e2, R2, r2, A2⟩ := mats_step e1 R1 T1 n1 o1 A
    split at A2
    · rename_i hl
      exact ⟨by rw [r2.length, sizeLine_n]; exact hl, (A2.ext e2).newL R2 r2⟩
    · exact A2.elim
  | exc _ _ => rw [hm] at A; exact A
  | bad => rw [hm] at A; exact A
theorem evEs_len {G : Orc} {me : FnDef} : ∀ {es : List E} {env : Env} {st st' : Store} {xs : List TV}, evEs G me es env st = .ok xs st' → xs.length = es.length
  | [], _, _, _, _, h => by simp only [evEs, Res.ok.injEq] at h; rw [← h.1]; rfl
  | e :: es, env, st, st', xs, h => by
    simp only [evEs] at h
    cases h1 : evE G me e env st with
    | ok x s1 =>
      rw [h1] at h
      simp only [Res.bind] at h
      cases h2 : evEs G me es env s1 with
      | ok ys s2 =>
        rw [h2] at h
        simp only [Res.bind, Res.ok.injEq] at h
        rw [← h.1]
        simp [evEs_len h2]
      | exc _ _ => rw [h2] at h; simp [Res.bind] at h
      | bad => rw [h2] at h; simp [Res.bind] at h
    | exc _ _ => rw [h1] at h; simp [Res.bind] at h
    | bad => rw [h1] at h; simp [Res.bind] at h
theorem mats_len : ∀ {xs : List TV} {st st' : Store} {ys : List IV}, mats xs st = .ok ys st' → ys.length = xs.length
  | [], _, _, _, h => by simp only [mats, Res.ok.injEq] at h; rw [← h.1]; rfl
  | x :: xs, st, st', ys, h => by
    simp only [mats] at h
    cases h1 : mat x st with
    | ok y s1 =>
      rw [h1] at h
      simp only [Res.bind] at h
      cases h2 : mats xs s1 with
      | ok zs s2 =>
        rw [h2] at h
        simp only [Res.bind, Res.ok.injEq] at h
        rw [← h.1]
        simp [mats_len h2]
      | exc _ _ => rw [h2] at h; simp [Res.bind] at h
      | bad => rw [h2] at h; simp [Res.bind] at h
    | exc _ _ => rw [h1] at h; simp [Res.bind] at h
    | bad => rw [h1] at h; simp [Res.bind] at h
/-- a call of a def of the text -/
theorem s_call {G : Orc} {me : FnDef} {hx : HX} {fd : FnDef} {es : List E} {as : List Expr} {x : Str} {p pos : Pos} (g : Good γ X sc W) (hg : globB sc x = true) (hxn : x = fd.nm) (hln : es.length = fd.np) (hc : CallX γ X G fd) (h : AllE γ X W hx G me es as) (hs : as.all notStar = true) :
    PE X (.Call (.Name x p) as [] pos) (tI γ W hx (fun env st => (evEs G me es env st).bind fun vs st => callWith G fd vs st)) := by
  obtain ⟨f, fdat, k, F, hr, hm, hk, hb⟩ := hc.ok
  obtain ⟨q1, q2, q3⟩ := g.gl hg
  subst hxn
  have key : PE X (.Call (.Name fd.nm p) as [] pos) (tCallS (spI γ G fd) (WE W) (tIL γ W hx (evEs G me es))) := by
    cases as with
    | nil =>
      refine ⟨fun pins s σ H Q I h0 => ?_⟩
      refine wpAny_Call_Name_kw (ld_glob I q1 hm ?_ q2)
      have := (s_args h hs).run pos pins s σ H (fun vs H1 => spI γ G fd vs H1 Q (WE W σ)) I h0
      cases h
      obtain ⟨ρ, env, st, hh, R, Re, A⟩ := h0
      simp only [evEs] at A
      exact PySem.W.callWith_K0 I.kIn hk (run_fnS (us := []) F hr hb (passAt g.tk σ) I .nil (A ρ H [] (.refl ρ H) R rfl (by simp [ownAs]) (by simp [ownAs])))
    | cons a as =>
      have hs' := hs
      simp only [List.all_cons, Bool.and_eq_true] at hs'
      exact pe_callS F hr q1 hm hk hb (fun σ => passAt g.tk σ) (s_args h hs) q2 (star_one hs'.1 _ _) (stars_plain hs'.2)
  refine PE.imp key fun σ H Q q => ?_
  obtain ⟨ρ, env, st, hh, R, Re, A⟩ := q
  refine ⟨ρ, env, st, hh, R, Re, ?_⟩
  have A : Aft γ ρ H ((evEs G me es env st).bind fun vs st => callWith G fd vs st) Q (fun cls d H' => W cls d σ H') := A
  cases hm2 : evEs G me es env st with
  | ok xs s =>
    rw [hm2] at A
    intro ρ1 H1 vs e1 R1 T1 n1 o1
    have A1 : Aft γ ρ H (callWith G fd xs s) Q (WE W σ) := A
    unfold callWith at A1
    have A2 := gc_ok (t := ownAs xs vs) e1 R1 o1 A1
    cases hm3 : mats xs s with
    | ok ys s2 =>
      rw [hm3] at A2
      obtain ⟨R2, r2⟩ := mats_ok R1 T1 n1 hm3
      exact ⟨_, s2, ys, R2, r2, by rw [mats_len hm3, evEs_len hm2, hln], A2⟩
    | exc _ _ => exact absurd hm3 mats_noexc
    | bad => rw [hm3] at A2; exact A2.elim
  | exc _ _ => rw [hm2] at A; exact A
  | bad => rw [hm2] at A; exact A

/-! ### subscripts, slices -/
theorem s_idx {G : Orc} {me : FnDef} {hx : HX} {a b : E} {l r : Expr} {pos : Pos} (g : Good γ X sc W) (hr : notSlice r = true) (ha : PE X l (tI γ W hx (evE G me a))) (hb : PE X r (tI γ W hx (evE G me b))) :
    PE X (.Subscript l r pos) (tI γ W hx (evE G me (.idx a b))) := by
  refine PE.imp (pe_ix (ixr_idx g.hK) ha hb (fun o i => by cases r <;> first | rfl | simp [notSlice] at hr)) fun σ H Q h => ?_
  simp only [evE] at h
  exact two_step (rr := fun v w H Q => rIdx γ v w H Q) (fun ρ st x y H v w E R T1 T2 A => ⟨ρ, st, x, y, E, R, T1, T2, A⟩) h
/-- a slice's part -/
def partM (G : Orc) (me : FnDef) (a : E) (env : Env) (st : Store) : Res (Option Int) := if isNob a then .ok none st else (evE G me a env st).bind fun y st => asInt y st
def AftO (γ : Gm) (ρ : List Addr) (H : Hp) (r : Res (Option Int)) (Q : Option Int → Hp → Prop) (E : XK) : Prop := match r with
  | .ok x st => ∀ ρ' H', Ext ρ H ρ' H' → Rep γ ρ' st H' → Q x H'
  | .exc e st => ∀ ρ' H' cls d, Ext ρ H ρ' H' → Rep γ ρ' st H' → RepX γ ρ' H' e cls d → E cls d H'
  | .bad => False
theorem s_part {G : Orc} {me : FnDef} {hx : HX} {a : E} {o : Option Expr} (h : match o with | none => isNob a = true | some l => isNob a = false ∧ PE X l (tI γ W hx (evE G me a))) : PO X o (fun σ H Q => ∃ ρ env st, hx env.hx σ ∧ Rep γ ρ st H ∧ REnv γ hx ρ H env σ ∧
      AftO γ ρ H (partM G me a env st) Q (fun cls d H' => W cls d σ H')) := by
  cases o with
  | none =>
    refine ⟨fun pins s σ H Q I hq => po_none.run pins s σ H Q I ?_⟩
    obtain ⟨ρ, env, st, hh, R, Re, A⟩ := hq
    unfold partM at A
    rw [if_pos h] at A
    exact A ρ H (.refl ρ H) R
  | some l =>
    refine ⟨fun pins s σ H Q I hq => (po_some h.2).run pins s σ H Q I ?_⟩
    obtain ⟨ρ, env, st, hh, R, Re, A⟩ := hq
    unfold partM at A
    rw [if_neg (by rw [h.1]; exact Bool.false_ne_true)] at A
    refine ⟨ρ, env, st, hh, R, Re, ?_⟩
    cases hm : evE G me a env st with
    | ok x s1 =>
      rw [hm] at A
      simp only [Res.bind] at A
      intro ρ' H' v e R' T o
      unfold asInt at A
      split at A
      · exact ⟨_, T, A ρ' H' e R'⟩
      · exact A.elim
    | exc _ _ => rw [hm] at A; exact A
    | bad => rw [hm] at A; exact A
theorem Aft.bindO {ρ : List Addr} {H : Hp} {r : Res (Option Int)} {f : Option Int → Store → Res TV} {Q : VK} {E : XK} (h : Aft γ ρ H (r.bind f) Q E) :
    AftO γ ρ H r (fun o H1 => ∃ ρ1 st1, Ext ρ H ρ1 H1 ∧ Rep γ ρ1 st1 H1 ∧ Aft γ ρ H (f o st1) Q E) E := by
  cases r with
  | ok x st => exact fun ρ' H' e R => ⟨ρ', st, e, R, h⟩
  | exc x st => exact h
  | bad => exact h
theorem s_sl {G : Orc} {me : FnDef} {hx : HX} {a lo hi : E} {l : Expr} {ol oh : Option Expr} {p2 pos : Pos} (g : Good γ X sc W) (ha : PE X l (tI γ W hx (evE G me a)))
    (hl : match ol with | none => isNob lo = true | some l => isNob lo = false ∧ PE X l (tI γ W hx (evE G me lo))) (hh : match oh with | none => isNob hi = true | some l => isNob hi = false ∧ PE X l (tI γ W hx (evE G me hi))) :
    PE X (.Subscript l (.Slice ol oh none p2) pos) (tI γ W hx (evE G me (.sl a lo hi))) := by
  refine PE.imp (pe_slice (slr_slc g.hK) ha (s_part hl) (s_part hh)) fun σ H Q h => ?_
  simp only [evE] at h
  obtain ⟨ρ, env, st, hhx, R, Re, A⟩ := h
  refine ⟨ρ, env, st, hhx, R, Re, A.bind.imp fun v H1 h1 => ?_⟩
  obtain ⟨ρ1, st1, x, e1, R1, T1, fr1, A1⟩ := h1
  have Re1 := Re.mono R e1
  have A1' := (A1.ext e1).bindO
  refine ⟨ρ1, env, st1, hhx, R1, Re1, ?_⟩
  have A1'' : AftO γ ρ1 H1 (partM G me lo env st1) _ _ := A1'
  cases hm : partM G me lo env st1 with
  | bad => rw [hm] at A1''; exact A1''
  | exc _ _ => rw [hm] at A1''; exact A1''
  | ok ol st2 =>
    rw [hm] at A1''
    intro ρ2 H2 e2 R2
    obtain ⟨ρ3, st3, e3, R3, A3⟩ := A1'' ρ2 H2 e2 R2
    have Re2 := Re1.mono R1 e3
    have A3' : AftO γ ρ3 H2 (partM G me hi env st3) _ _ := (A3.ext e3).bindO
    refine ⟨ρ3, env, st3, hhx, R3, Re2, ?_⟩
    cases hm2 : partM G me hi env st3 with
    | bad => rw [hm2] at A3'; exact A3'
    | exc _ _ => rw [hm2] at A3'; exact A3'
    | ok oh st4 =>
      rw [hm2] at A3'
      intro ρ4 H4 e4 R4
      obtain ⟨ρ5, st5, e5, R5, A5⟩ := A3' ρ4 H4 e4 R4
      exact ⟨ρ5, st5, x, _, R5, (T1.mono R1 e3).mono R3 e5, A5.ext e5⟩

/-! ### built-ins -/
theorem s_biCore {G : Orc} {me : FnDef} {hx : HX} {f : Bi} {es : List E} {σ : L2.St} {H : Hp} {Q : VK} (h : tI γ W hx (evE G me (.bi f es)) σ H Q) : tCB (rBi γ f) (tIL γ W hx (evEs G me es)) σ H Q := by
  simp only [evE] at h
  obtain ⟨ρ, env, st, hh, R, Re, A⟩ := h
  refine ⟨ρ, env, st, hh, R, Re, ?_⟩
  have A : Aft γ ρ H ((evEs G me es env st).bind fun vs st => biM f vs st) Q (fun cls d H' => W cls d σ H') := A
  cases hm : evEs G me es env st with
  | ok xs s =>
    rw [hm] at A
    exact fun ρ' H' vs e R' T n o => ⟨ρ', s, xs, _, R', T, A.ext e⟩
  | exc _ _ => rw [hm] at A; exact A
  | bad => rw [hm] at A; exact A
theorem bi_boot {f : Bi} (h : biOn f = true) : bootBuiltins (biN f) = some (biVal f) := by
  cases f <;> first | (simp [biOn] at h; done) | decide +kernel
theorem bi_names (f : Bi) : biN f ∈ bNames := by cases f <;> decide +kernel
theorem s_bi {G : Orc} {me : FnDef} {hx : HX} {f : Bi} {es : List E} {a : Expr} {as : List Expr} {p pos : Pos} (g : Good γ X sc W) (hcm : sc.calm = true) (ho : biOn f = true) (hg : globB sc (biN f) = true) (h : AllE γ X W hx G me es (a :: as)) (hs : (a :: as).all notStar = true) :
    PE X (.Call (.Name (biN f) p) (a :: as) [] pos) (tI γ W hx (evE G me (.bi f es))) := by
  obtain ⟨q1, q2, q3⟩ := g.gl hg
  have hv := bi_boot ho
  have hm := g.free _ (bi_names f)
  have hs' := hs
  simp only [List.all_cons, Bool.and_eq_true] at hs'
  have hcr := callr_bi (X := X) (γ := γ) g.hK (g.calm hcm) f
  refine PE.imp (t := tCB (rBi γ f) (tIL γ W hx (evEs G me es))) ?_ fun σ H Q h => s_biCore h
  cases f <;> first
    | (simp [biOn] at ho; done)
    | exact pe_callB hcr q1 hm hv (s_args h hs) q3 q2 (star_one hs'.1 _ _) (stars_plain hs'.2)
    | exact pe_callTy hcr q1 hm hv (s_args h hs) q3 q2 (star_one hs'.1 _ _) (stars_plain hs'.2)

/-! ### isinstance -/
theorem ty_boot (t : Ty) : bootBuiltins (Str.ofString (tyN t)) = some (.type (tyN t)) := by cases t <;> decide +kernel
theorem ty_mem (t : Ty) : Str.ofString (tyN t) ∈ bNames := by cases t <;> decide +kernel
theorem s_tyName (g : Good γ X sc W) {t : Ty} {x : Str} {p : Pos} (h : (x == Str.ofString (tyN t)) = true) (hg : globB sc x = true) : PE X (.Name x p) (tC (.ty (tyN t))) := by
  rw [beq_iff_eq] at h
  subst h
  obtain ⟨q1, q2, q3⟩ := g.gl hg
  exact pe_bltn q1 (g.free _ (ty_mem t)) (ty_boot t) rfl q3 q2
theorem s_tyNames (g : Good γ X sc W) : ∀ {es : List Expr} {ts : List Ty}, es.length = ts.length → ((es.zip ts).all fun (e, t) => match e with | .Name x _ => x == Str.ofString (tyN t) | _ => false) = true →
    (es.filterMap fun | .Name x _ => some x | _ => none).all (globB sc) = true → PA X es (fun σ H Q => Q (ts.map fun t => V.ty (tyN t)) H)
  | [], [], _, _, _ => pa_nil
  | [], _ :: _, h, _, _ => by simp at h
  | _ :: _, [], h, _, _ => by simp at h
  | e :: es, t :: ts, h, h2, h3 => by
    simp only [List.zip_cons_cons, List.all_cons, Bool.and_eq_true] at h2
    cases e with
    | Name x p =>
      simp only [List.filterMap_cons, List.all_cons, Bool.and_eq_true] at h3
      exact pa_cons (s_tyName g h2.1 h3.1) (s_tyNames g (by simpa using h) h2.2 h3.2) rfl
    | _ => simp at h2
theorem s_isI {G : Orc} {me : FnDef} {hx : HX} {e : E} {ts : List Ty} {l r : Expr} {p pos : Pos} (g : Good γ X sc W) (hg : globB sc "isinstance" = true) (hl : notStar l = true) (hr : notStar r = true) (hne : ts ≠ []) (hsm : ts.length ≤ 100) (ht : tyAST ts r = true) (hn : (tyNames r).all (globB sc) = true)
    (ha : PE X l (tI γ W hx (evE G me e))) : PE X (.Call (.Name "isinstance" p) [l, r] [] pos) (tI γ W hx (evE G me (.isI e ts))) := by
  obtain ⟨q1, q2, q3⟩ := g.gl hg
  have hm := g.free "isinstance" (by decide +kernel)
  have hv : bootBuiltins ("isinstance" : Str) = some (.builtin "isinstance") := by decide +kernel
  have pl : (backTo pos (starEach [r] X.env)).any (·.1) = false := stars_plain (by simp [hr])
  have res : ∀ {ρ : List Addr} {st : Store} {x : TV} {v : V} {H : Hp} {Q : VK} {E : XK}, Rep γ ρ st H → RepT γ ρ H x v → Aft γ ρ H (match isTys st x ts with | some b => .ok (.v (.bl b)) st | none => .bad) Q E → ∃ n, tnOf st x = some n ∧ ∀ H', Ext ρ H ρ H' → Rep γ ρ st H' → Q (.bl (ts.any (tnIs n))) H' := by
    intro ρ st x v H Q E R T A
    unfold isTys at A
    cases hn : tnOf st x with
    | none => rw [hn] at A; exact A.elim
    | some n => rw [hn] at A; exact ⟨n, rfl, fun H' e R' => (A.ext e).val R' rfl⟩
  cases r with
  | Name x px =>
    cases ts with
    | nil => exact absurd rfl hne
    | cons t ts' =>
      cases ts' with
      | cons _ _ => simp [tyAST] at ht
      | nil =>
        simp only [tyAST] at ht
        simp only [tyNames, List.all_cons, List.all_nil, Bool.and_true] at hn
        refine PE.imp (pe_callB call_isi q1 hm hv (pa_cons ha (pa_cons (s_tyName g ht hn) pa_nil rfl) (star_one hl _ _)) q3 q2 (star_one hl _ _) pl) fun σ H Q h => ?_
        simp only [evE] at h
        refine one_step (fun ρ st x H v E R T A => ?_) h
        obtain ⟨n, h1, h2⟩ := res R T A
        refine ⟨v, _, _, _, _, rfl, .ty _, g.hK ▸ tyOf_of R T h1, kit_ty (kit_tn n t), ?_⟩
        have := h2 H (.refl ρ H) R
        simpa using this
  | Tuple es k pt =>
    simp only [tyAST, Bool.and_eq_true, decide_eq_true_eq] at ht
    simp only [tyNames] at hn
    refine PE.imp (pe_callB call_isiT q1 hm hv (pa_cons ha (pa_cons (pe_tup (s_tyNames g ht.1 ht.2 hn)) pa_nil rfl) (star_one hl _ _)) q3 q2 (star_one hl _ _) pl) fun σ H Q h => ?_
    simp only [evE] at h
    refine one_step (fun ρ st x H v E R T A => ?_) h
    obtain ⟨n, h1, h2⟩ := res R T A
    refine ⟨by rw [List.length_map, sizeLine_n]; exact Nat.le_trans hsm (by decide), fun tp htp => ?_⟩
    · have eL : Ext ρ H ρ (upd H tp (.tup (ts.map fun t => V.ty (tyN t)))) := Ext.laid htp
      refine ⟨v, tp, _, _, _, _, rfl, upd_same, cls_vals ts, g.hK ▸ tyOf_of (R.laid htp) (T.mono R eL) h1, kitAny_of n ts, ?_⟩
      exact h2 _ eL (R.laid htp)
  | _ => simp [tyAST] at ht

/-! ### methods of lists -/
theorem base_of {o : Expr} (h : plainB o = true) (nm : Str) (env : PySem.Env) (whole : Sem Value) : attributeBase o nm env whole = whole := by
  unfold attributeBase
  cases o with
  | Call f as ks pos =>
    cases f with
    | Name id p =>
      cases as with
      | cons _ _ => rfl
      | nil =>
        cases ks with
        | cons _ _ => rfl
        | nil =>
          simp only [plainB, Bool.not_eq_true'] at h
          have : (id != ("super" : Str)) = true := by simp [bne, h]
          simp only [this, Bool.true_or, if_true]
    | _ => rfl
  | _ => rfl
theorem few_of {as : List Expr} {env : PySem.Env} {pos : Pos} (h : as.all notStar = true) (hl : as.length < 20) :
    ((backTo pos (starEach as env)).all (fun x => !x.1) && (backToKw pos (keywordEach [] env)).all (fun x => x.1.isSome) && decide (as.length + ([] : List Keyword).length + (if ([] : List Keyword).isEmpty then 0 else 1) < 30)) = true := by
  have h1 : ∀ {as : List Expr}, as.all notStar = true → (backTo pos (starEach as env)).all (fun x => !x.1) = true := by
    intro as
    induction as with
    | nil => intro _; rfl
    | cons a as ih =>
      intro h
      simp only [List.all_cons, Bool.and_eq_true] at h
      rw [star_one h.1]
      simp only [backTo, List.map_cons, List.all_cons, Bool.not_false, Bool.true_and] at ih ⊢
      exact ih h.2
  rw [h1 h]
  simp [keywordEach, backToKw]
  omega
theorem s_bmCore {G : Orc} {me : FnDef} {hx : HX} {f : Bm} (hf : f = .append ∨ f = .extend) {a : E} {es : List E} {σ : L2.St} {H : Hp} {Q : VK} (hK : X.K = γ.K) (h : tI γ W hx (evE G me (.bm f a es)) σ H Q) : tBM X.K "list" (rBm γ f) (tI γ W hx (evE G me a)) (tIL γ W hx (evEs G me es)) σ H Q := by
  simp only [evE] at h
  obtain ⟨ρ, env, st, hh, R, Re, A⟩ := h
  refine ⟨ρ, env, st, hh, R, Re, A.bind.imp fun v H1 h1 => ?_⟩
  obtain ⟨ρ1, st1, x, e1, R1, T1, fr1, A1⟩ := h1
  have A1 : Aft γ ρ H (if isLst x st1 = true then (evEs G me es env st1).bind fun vs st => bmM f x vs st else .bad) Q (fun cls d H' => W cls d σ H') := A1
  have Re1 := Re.mono R e1
  split at A1
  · rename_i hl
    refine ⟨?_, ρ1, env, st1, hh, R1, Re1, ?_⟩
    · unfold isLst at hl
      obtain ⟨xs, hxs⟩ := Option.isSome_iff_exists.mp hl
      obtain ⟨a, vs, rfl, h1, h2⟩ := itemsM_at R1 T1 hxs
      exact .inl ⟨rfl, vs, SqL.of h1⟩
    · cases hm : evEs G me es env st1 with
      | ok xs s =>
        rw [hm] at A1
        exact fun ρ' H' vs e R' T n o => ⟨ρ, H, ρ', s, x, xs, _, e1.trans e, R', T1.mono R1 e, T, fun a ha => e1.back a (o a ha), A1⟩
      | exc _ _ => rw [hm] at A1; exact fun ρ' H' cls d e R' X' => A1 ρ' H' cls d (e1.trans e) R' X'
      | bad => rw [hm] at A1; exact A1
  · exact A1.elim
theorem s_bm {G : Orc} {me : FnDef} {hx : HX} {f : Bm} {a : E} {es : List E} {o e : Expr} {as : List Expr} {apos pos : Pos} (g : Good γ X sc W) (ho : bmOn f = true) (hb : plainB o = true) (hline : (apos.endLine == pos.line) = true) (hlen : (e :: as).length < 20)
    (ha : PE X o (tI γ W hx (evE G me a))) (h : AllE γ X W hx G me es (e :: as)) (hs : (e :: as).all notStar = true) : PE X (.Call (.Attribute o (bmN f) apos) (e :: as) [] pos) (tI γ W hx (evE G me (.bm f a es))) := by
  have hs' := hs
  simp only [List.all_cons, Bool.and_eq_true] at hs'
  cases f <;> first | (simp [bmOn] at ho; done) | skip
  · exact PE.imp (pe_bm PySem.F.plainAttrs_list PySem.F.slot_list_append PySem.F.type_list_append (mtr_bm g.hK g.hu .append (.inl rfl)) ha (s_args h hs) (base_of hb _ _ _) (few_of hs hlen) hline (star_one hs'.1 _ _) (stars_plain hs'.2)) fun σ H Q h => s_bmCore (.inl rfl) g.hK h
  · exact PE.imp (pe_bm PySem.F.plainAttrs_list PySem.F.slot_list_extend PySem.F.type_list_extend (mtr_bm g.hK g.hu .extend (.inr rfl)) ha (s_args h hs) (base_of hb _ _ _) (few_of hs hlen) hline (star_one hs'.1 _ _) (stars_plain hs'.2)) fun σ H Q h => s_bmCore (.inr rfl) g.hK h
end
end MP

set_option linter.all false
set_option autoImplicit false
set_option Elab.async false
set_option maxRecDepth 100000
namespace MP
open PySem L2

/-! ### targets -/
theorem PG.or {X : Cx} {e : Expr} {t t' : TG} (h : PG X e t) (h' : PG X e t') : PG X e (fun v σ H Q => t v σ H Q ∨ t' v σ H Q) :=
  ⟨fun pins s σ H v u Q I r q => q.elim (h.run pins s σ H v u Q I r) (h'.run pins s σ H v u Q I r)⟩
def SameBut (l : List Nat) (σ σ' : L2.St) : Prop := σ'.length = σ.length ∧ ∀ j, j ∉ l → σ'[j]? = σ[j]?
theorem SameBut.refl (l : List Nat) (σ : L2.St) : SameBut l σ σ := ⟨rfl, fun _ _ => rfl⟩
theorem SameBut.trans {l m : List Nat} {σ σ1 σ2 : L2.St} (a : SameBut l σ σ1) (b : SameBut m σ1 σ2) : SameBut (l ++ m) σ σ2 :=
  ⟨b.1.trans a.1, fun j hj => (b.2 j fun z => hj (List.mem_append_right _ z)).trans (a.2 j fun z => hj (List.mem_append_left _ z))⟩
def AftP (γ : Gm) (ρ : List Addr) (H : Hp) (σ : L2.St) (l : List Nat) (hx : HX) (r : Res Env) (Q : L2.St → Hp → Prop) : Prop := match r with
  | .ok env st => ∀ ρ' H' σ', Ext ρ H ρ' H' → Rep γ ρ' st H' → REnv γ hx ρ' H' env σ' → hx env.hx σ' → SameBut l σ σ' → Q σ' H'
  | .exc _ _ => False
  | .bad => False
def noW : WX := fun _ _ _ _ => False
theorem Aft.quiet {γ : Gm} {ρ : List Addr} {H : Hp} {r : Res TV} {Q : VK} {E E' : XK} (h : Aft γ ρ H r.quiet Q E) : Aft γ ρ H r Q E' := by
  cases r with
  | ok x st => exact h
  | exc _ _ => exact h.elim
  | bad => exact h
/-- a target's reading -/
def tP (γ : Gm) (hx : HX) (l : List Nat) (m : TV → Env → Store → Res Env) : TG := fun v σ H Q => ∃ ρ0 H0 ρ env st x, hx env.hx σ ∧ Ext ρ0 H0 ρ H ∧ Rep γ ρ st H ∧ REnv γ hx ρ H env σ ∧ LmOld env σ H0 ∧ RepT γ ρ H x v ∧ (∀ a ∈ ownA x v, H0 a = none) ∧ AftP γ ρ0 H0 σ l hx (m x env st) Q
def tPs (γ : Gm) (hx : HX) (l : List Nat) (m : List IV → Env → Store → Res Env) : TGs := fun vs σ H Q => ∃ ρ env st xs, hx env.hx σ ∧ Rep γ ρ st H ∧ REnv γ hx ρ H env σ ∧ RepVs γ ρ H xs vs ∧ AftP γ ρ H σ l hx (m xs env st) Q
theorem AftP.ext {γ : Gm} {ρ ρ1 : List Addr} {H H1 : Hp} {σ : L2.St} {l : List Nat} {hx : HX} {r : Res Env} {Q : L2.St → Hp → Prop} (h : AftP γ ρ H σ l hx r Q) (e : Ext ρ H ρ1 H1) : AftP γ ρ1 H1 σ l hx r Q := by
  cases r with
  | ok env st => exact fun ρ' H' σ' e' R Re hh s => h ρ' H' σ' (e.trans e') R Re hh s
  | exc _ _ => exact h
  | bad => exact h
theorem AftP.same {γ : Gm} {ρ : List Addr} {H : Hp} {σ σ1 : L2.St} {l m : List Nat} {hx : HX} {r : Res Env} {Q : L2.St → Hp → Prop} (h : AftP γ ρ H σ (l ++ m) hx r Q) (s : SameBut l σ σ1) : AftP γ ρ H σ1 m hx r Q := by
  cases r with
  | ok env st => exact fun ρ' H' σ' e' R Re hh s' => h ρ' H' σ' e' R Re hh (s.trans s')
  | exc _ _ => exact h
  | bad => exact h
theorem asg_one {e : Expr} (h : notStar e = true) (es : List Expr) (env : PySem.Env) : assignEach (e :: es) env = (false, assign e env) :: assignEach es env := by
  cases e <;> first | rfl | simp [notStar] at h
theorem asg_len : ∀ {es : List Expr} {env : PySem.Env}, (assignEach es env).length = es.length
  | [], _ => rfl
  | e :: es, env => by
    cases e <;> simp only [assignEach, List.length_cons, asg_len]
theorem asg_plain : ∀ {es : List Expr} {env : PySem.Env}, es.all notStar = true → (assignEach es env).findIdx? (·.1) = none
  | [], _, _ => rfl
  | e :: es, env, h => by
    simp only [List.all_cons, Bool.and_eq_true] at h
    rw [asg_one h.1, List.findIdx?_cons]
    simp [asg_plain (env := env) h.2]
section
variable {γ : Gm} {X : Cx} {sc : Sc} {W : WX}
theorem REnv.grow {hx : HX} {ρ : List Addr} {H H0 : Hp} {env : Env} {σ : L2.St} {t : List Addr} (Re : REnv γ hx ρ H env σ) (old : LmOld env σ H0) (fr : ∀ a ∈ t, H0 a = none) : REnv γ hx (ρ ++ t) H env σ :=
  ⟨Re.len, fun j x q => let ⟨w, h1, h2⟩ := Re.sl j x q; ⟨w, h1, h2.grow _⟩, fun x q => by
    obtain ⟨p, h1, C, f, q1, q2, q3⟩ := Re.hv x q
    refine ⟨p, h1, C, f, q1, q2, ?_⟩
    split at q3
    · exact q3
    · obtain ⟨dd, v, z1, z2, z3⟩ := q3
      exact ⟨dd, v, z1, z2, z3.grow _⟩
    · exact q3.elim, fun q hq => by
    obtain ⟨a, fs, h1, h2, h3, h4⟩ := Re.lm q hq
    refine ⟨a, fs, h1, h2, fun z => ?_, h4⟩
    rcases List.mem_append.mp z with z | z
    · exact h3 z
    · exact old q hq a h1 (fr a z), Re.la⟩
theorem setSl_env {hx : HX} {ρ : List Addr} {H : Hp} {env env' : Env} {σ : L2.St} {i : Nat} {y : IV} {v : V} (Re : REnv γ hx ρ H env σ) (r : RepV γ ρ H y v) (h : setSl env i y = some env') : REnv γ hx ρ H env' (σ.set i (some v)) ∧ env'.hx = env.hx := by
  unfold setSl at h
  split at h
  · rename_i hi
    cases h
    refine ⟨⟨by simp [Re.len], fun j x q => ?_, Re.hv, fun q hq => ?_, ?_⟩, rfl⟩
    · by_cases hj : j = i
      · subst hj
        rw [List.getElem?_set_self hi] at q
        cases q
        exact ⟨v, by rw [List.getElem?_set_self (by rw [← Re.len]; exact hi)], r⟩
      · rw [List.getElem?_set_ne (Ne.symm hj)] at q
        obtain ⟨w, h1, h2⟩ := Re.sl j x q
        exact ⟨w, by rw [List.getElem?_set_ne (Ne.symm hj)]; exact h1, h2⟩
    · obtain ⟨h1, h2⟩ := List.mem_filter.mp hq
      obtain ⟨a, fs, q1, q2⟩ := Re.lm q h1
      have hne : i ≠ q.1 := fun z => by
        have h2 : (q.1 != i) = true := h2
        rw [z] at h2
        simp at h2
      exact ⟨a, fs, by rw [List.getElem?_set_ne hne]; exact q1, q2⟩
    · exact Re.la
  · cases h
theorem same_set {i : Nat} {σ : L2.St} {o : Option V} : SameBut [i] σ (σ.set i o) := ⟨by simp, fun j hj => by
  rw [List.getElem?_set_ne]
  intro e
  exact hj (by simp [e])⟩
theorem p_var {G : Orc} {me : FnDef} {hx : HX} {i : Nat} {x : Str} {pos : Pos} (hxT : ∀ o σ, hx o σ) (g : Good γ X sc W) (h : chkP sc me (.v i) (.Name x pos) = true) : PG X (.Name x pos) (tP γ hx (slots (.v i)) (pat G me (.v i))) := by
  simp only [chkP, Bool.and_eq_true, decide_eq_true_eq] at h
  refine PG.imp (pg_name g.nd (by rw [g.hN]; exact h.1) (g.st x h.2).1 (g.st x h.2).2) fun v σ H Q q => ?_
  obtain ⟨ρ0, H0, ρ, env, st, y, hh, e0, R, Re, Lo, T, fr, A⟩ := q
  simp only [pat] at A
  cases hm : mat y st with
  | ok z st1 =>
    rw [hm] at A
    simp only [Res.bind] at A
    obtain ⟨R1, r1⟩ := mat_ok R T hm
    split at A
    · rename_i env' he
      have Re1 : REnv γ hx (ρ ++ ownA y v) H env σ := Re.grow Lo fr
      obtain ⟨Re2, eh⟩ := setSl_env Re1 r1 he
      exact A _ _ _ (e0.mat fr) R1 Re2 (hxT _ _) same_set
    · exact A.elim
  | exc _ _ => exact absurd hm mat_noexc
  | bad => rw [hm] at A; exact A.elim
inductive AllP (γ : Gm) (X : Cx) (hx : HX) (G : Orc) (me : FnDef) : List Pt → List Expr → Prop
  | nil : AllP γ X hx G me [] []
  | cons {p : Pt} {t : Expr} {ps : List Pt} {ts : List Expr} (hn : notStar t = true) (h : PG X t (tP γ hx (slots p) (pat G me p))) (r : AllP γ X hx G me ps ts) : AllP γ X hx G me (p :: ps) (t :: ts)
theorem AllP.star {G : Orc} {me : FnDef} {hx : HX} : ∀ {ps : List Pt} {ts : List Expr}, AllP γ X hx G me ps ts → ts.all notStar = true ∧ ts.length = ps.length
  | _, _, .nil => ⟨rfl, rfl⟩
  | _, _, .cons hn _ r => ⟨by simp only [List.all_cons, Bool.and_eq_true]; exact ⟨hn, r.star.1⟩, by simp [r.star.2]⟩
theorem p_all {G : Orc} {me : FnDef} {hx : HX} : ∀ {ps : List Pt} {ts : List Expr}, AllP γ X hx G me ps ts → PGs X ts (tPs γ hx (slotss ps) (pats G me ps))
  | [], _, .nil => ⟨fun pins s σ H vs us Q I r q => by
    obtain ⟨ρ, env, st, xs, hh, R, Re, T, A⟩ := q
    refine pgs_nil.run pins s σ H vs us Q I r ?_
    cases xs with
    | nil =>
      simp only [RepVs] at T
      simp only [pats] at A
      exact ⟨T, A _ _ _ (.refl ρ H) R Re hh (.refl _ σ)⟩
    | cons _ _ => simp only [pats] at A; exact A.elim⟩
  | p :: ps, t :: ts, .cons hn h r => ⟨fun pins s σ H vs us Q I rv q => by
    refine (pgs_cons h (p_all r) (by rw [asg_one hn]; rfl)).run pins s σ H vs us Q I rv ?_
    obtain ⟨ρ, env, st, xs, hh, R, Re, T, A⟩ := q
    cases xs with
    | nil => simp only [pats] at A; exact A.elim
    | cons x xs =>
      simp only [RepVs] at T
      obtain ⟨w, ws, rfl, h1, h2⟩ := T
      refine ⟨w, ws, rfl, ρ, H, ρ, env, st, .v x, hh, .refl ρ H, R, Re, Re.old, h1, (fun a ha => by simp [ownA] at ha), ?_⟩
      simp only [pats] at A
      cases hm : pat G me p (.v x) env st with
      | ok env1 st1 =>
        rw [hm] at A
        intro ρ1 H1 σ1 e1 R1 Re1 hh1 s1
        exact ⟨ρ1, env1, st1, xs, hh1, R1, Re1, h2.mono R e1, (AftP.same A s1).ext e1⟩
      | exc _ _ => rw [hm] at A; exact A
      | bad => rw [hm] at A; exact A⟩
theorem p_tup {G : Orc} {me : FnDef} {hx : HX} {ps : List Pt} {ts : List Expr} {k : Nat} {pos : Pos} (g : Good γ X sc W) (hcm : sc.calm = true) (h : AllP γ X hx G me ps ts) : PG X (.Tuple ts k pos) (tP γ hx (slots (.tup ps)) (pat G me (.tup ps))) := by
  have hs := h.star
  refine PG.imp (PG.or (pg_tup (n := ps.length) (g.calm hcm) (p_all h) (by rw [asg_len, hs.2]) (asg_plain hs.1)) (pg_lst (n := ps.length) (g.calm hcm) (p_all h) (by rw [asg_len, hs.2]) (asg_plain hs.1))) fun v σ H Q q => ?_
  obtain ⟨ρ0, H0, ρ, env, st, x, hh, e0, R, Re, Lo, T, fr, A⟩ := q
  simp only [pat] at A
  split at A
  · rename_i xs hu
    unfold unpack at hu
    split at hu
    · rename_i ys hy
      split at hu
      · rename_i hl
        cases hu
        obtain ⟨a, vs, rfl, hsq, rv⟩ := itemsLT_sq R T hy
        have rest : tPs γ hx (slotss ps) (pats G me ps) vs σ H Q := ⟨ρ, env, st, _, hh, R, Re, rv, A.ext e0⟩
        rcases hsq with hsq | hsq
        · exact .inr ⟨a, vs, rfl, g.hK ▸ hsq, by rw [rv.length, hl], rest⟩
        · exact .inl ⟨a, vs, rfl, g.hK ▸ hsq, by rw [rv.length, hl], rest⟩
      · cases hu
    · cases hu
  · exact A.elim
/-- x[i] = .. -/
def rSetM (γ : Gm) : TSet := fun o i v H Q => ∃ ρ0 H0 ρ st x y z, Ext ρ0 H0 ρ H ∧ Rep γ ρ st H ∧ RepT γ ρ H x o ∧ RepT γ ρ H y i ∧ RepV γ ρ H z v ∧ ∃ st', setIdx x y z st = some st' ∧ ∀ ρ' H', Ext ρ0 H0 ρ' H' → Rep γ ρ' st' H' → Ext ρ H ρ' H' → Q H'
theorem pset_idx : PSet X (rSetM γ) := by
  intro pins s σ H o i v ov iv u Q I ro ri rv h
  obtain ⟨ρ0, H0, ρ, st, x, y, z, e0, R, T1, T2, r, st', hset, q⟩ := h
  unfold setIdx at hset
  split at hset
  · split at hset
    · rename_i xs ex
      obtain ⟨k, hk, rfl⟩ := Option.map_eq_some_iff.mp hset
      simp only [RepT, RepV] at T1 T2
      obtain ⟨a, ha, rfl⟩ := T1
      subst T2
      obtain ⟨b, hb, ws, hw, rw_⟩ := R.ob _ _ ex
      rw [ha] at hb; cases hb
      have eU : Ext ρ H ρ (L2.upd H a (.lst (ws.set k v))) := Ext.upd (List.mem_of_getElem? ha)
      exact set_list pins s σ H _ _ v ov iv u Q I ro ri rv ⟨a, ws, _, k, rfl, rfl, hw, by rw [rw_.length, ← atN_ixN]; exact hk,
        q ρ _ (e0.trans eU) (R.set ha ⟨_, upd_same, (rw_.mono R eU).set (r.mono R eU) k⟩) eU⟩
    · cases hset
  · cases hset
theorem p_idx {G : Orc} {me : FnDef} {hx : HX} {a b : E} {o i : Expr} {pos : Pos} (ha : PE X o (tI γ noW hx (evE G me a))) (hb : PE X i (tI γ noW hx (evE G me b))) (hn : notSlice i = true) : PG X (.Subscript o i pos) (tP γ hx (slots (.idx a b)) (pat G me (.idx a b))) := by
  refine PG.imp (pg_sub ha hb (pset_idx (γ := γ)) (by intro v; cases i <;> first | rfl | simp [notSlice] at hn)) fun v σ H Q q => ?_
  obtain ⟨ρ0, H0, ρ, env, st, x, hh, e0, R, Re, Lo, T, fr, A⟩ := q
  simp only [pat] at A
  cases hm : mat x st with
  | ok z st1 =>
    rw [hm] at A
    simp only [Res.bind] at A
    obtain ⟨R1, r1⟩ := mat_ok R T hm
    have Re1 : REnv γ hx (ρ ++ ownA x v) H env σ := Re.grow Lo fr
    refine ⟨_, env, st1, hh, R1, Re1, ?_⟩
    have A1 : AftP γ ρ0 H0 σ (slots (.idx a b)) hx ((evE G me a env st1).bind fun u st => (evE G me b env st).bind fun w st => match setIdx u w z st with | some st => .ok env st | none => .bad) Q := A
    cases hm1 : evE G me a env st1 with
    | ok u st2 =>
      rw [hm1] at A1
      intro ρ2 H2 ov e2 R2 T2 fr2
      refine ⟨ρ2, env, st2, hh, R2, Re1.mono R1 e2, ?_⟩
      have A2 : AftP γ ρ0 H0 σ (slots (.idx a b)) hx ((evE G me b env st2).bind fun w st => match setIdx u w z st with | some st => .ok env st | none => .bad) Q := A1
      cases hm2 : evE G me b env st2 with
      | ok w st3 =>
        rw [hm2] at A2
        intro ρ3 H3 iv e3 R3 T3 fr3
        have A3 : AftP γ ρ0 H0 σ (slots (.idx a b)) hx (match setIdx u w z st3 with | some st => .ok env st | none => .bad) Q := A2
        cases hm3 : setIdx u w z st3 with
        | none => rw [hm3] at A3; exact A3.elim
        | some st4 =>
          rw [hm3] at A3
          refine ⟨ρ0, H0, ρ3, st3, u, w, z, ((e0.mat fr).trans e2).trans e3, R3, T2.mono R2 e3, T3, (r1.mono R1 e2).mono R2 e3, st4, hm3, fun ρ4 H4 e4 R4 e5 => ?_⟩
          exact A3 ρ4 H4 σ e4 R4 (((Re1.mono R1 e2).mono R2 e3).mono R3 e5) hh (.refl _ σ)
      | exc _ _ => rw [hm2] at A2; exact A2.elim
      | bad => rw [hm2] at A2; exact A2.elim
    | exc _ _ => rw [hm1] at A1; exact A1.elim
    | bad => rw [hm1] at A1; exact A1.elim
  | exc _ _ => exact absurd hm mat_noexc
  | bad => rw [hm] at A; exact A.elim

/-! ### what is walked -/
/-- what J walks is q; tm: the list that nobody else holds -/
inductive JAt (γ : Gm) (ρ : List Addr) (st : Store) (H : Hp) : L2.It → Sq → Option Addr → Prop
  | tmp {a : Addr} {vs : List V} {q : Sq} (h1 : H a = some (.lst vs)) (h2 : a ∉ ρ) (rv : RepVs γ ρ H q.xs vs) : JAt γ ρ st H (Itl γ.K a) q (some a)
  | frz {a : Addr} {ns : List Int} {q : Sq} (h1 : FrzAt γ.K H a (ns.map V.int)) (e : q.xs = ns.map .int) : JAt γ ρ st H (Itl γ.K a) q none
  | ref {a : Addr} {r : Nat} {q : Sq} (h0 : q.gd = some r) (h1 : ρ[r]? = some a) (h2 : st[r]? = some (.lst q.xs)) : JAt γ ρ st H (Itl γ.K a) q none
  | tup {a : Addr} {vs : List V} {q : Sq} {ky : Bool} (h1 : TupAt ky γ.K H a vs) (rv : RepVs γ ρ H q.xs vs) : JAt γ ρ st H (Itt γ.K a) q none
  | rng {lo : Int} {n : Nat} {q : Sq} (e : q.xs = rngL lo n) : JAt γ ρ st H (Itr lo n) q none
  | rngc {lo c : Int} {n : Nat} {q : Sq} (e : q.xs = rngC lo c n) : JAt γ ρ st H (Itc lo c n) q none
theorem JAt.go {ρ : List Addr} {st : Store} {H : Hp} {J : L2.It} {q : Sq} {tm : Option Addr} {i : Nat} {x : IV} (R : Rep γ ρ st H) (h : JAt γ ρ st H J q tm) (hx : q.xs[i]? = some x) : J.go i H ∧ ∀ y H', J.yld i H y H' → H' = H ∧ RepV γ ρ H x y := by
  have one : ∀ {a : Addr} {vs : List V}, SqL γ.K H a vs → RepVs γ ρ H q.xs vs → (Itl γ.K a).go i H ∧ ∀ y H', (Itl γ.K a).yld i H y H' → H' = H ∧ RepV γ ρ H x y := fun {a vs} hs rv => by
    obtain ⟨v, h1, h2⟩ := rv.get hx
    refine ⟨⟨vs, v, hs, h1⟩, fun y H' hy => ⟨hy.1, ?_⟩⟩
    have := hy.2 vs hs
    rw [h1] at this
    cases this
    exact h2
  rcases h with ⟨h1, h2, rv⟩ | ⟨h1, e⟩ | ⟨h0, h1, h2⟩ | ⟨h1, rv⟩ | ⟨e⟩ | ⟨e⟩
  · exact one (SqL.of h1) rv
  · exact one h1.sq (by rw [e]; exact RepVs.ints _)
  · obtain ⟨b, hb, ws, hw, rv⟩ := R.ob _ _ h2
    rw [h1] at hb; cases hb
    exact one (SqL.of hw) rv
  · obtain ⟨v, q1, q2⟩ := rv.get hx
    refine ⟨⟨_, v, h1.sq, q1⟩, fun y H' hy => ⟨hy.1, ?_⟩⟩
    have := hy.2 _ h1.sq
    rw [q1] at this
    cases this
    exact q2
  · rw [e] at hx
    unfold rngL at hx
    rw [List.getElem?_map] at hx
    obtain ⟨k, hk, rfl⟩ := Option.map_eq_some_iff.mp hx
    have hlt := (List.getElem?_eq_some_iff.mp hk).1
    rw [List.length_range] at hlt
    rw [List.getElem?_range hlt] at hk
    cases hk
    exact ⟨hlt, fun y H' hy => ⟨hy.1, hy.2⟩⟩
  · rw [e] at hx
    unfold rngC at hx
    rw [List.getElem?_map] at hx
    obtain ⟨k, hk, rfl⟩ := Option.map_eq_some_iff.mp hx
    have hlt := (List.getElem?_eq_some_iff.mp hk).1
    rw [List.length_range] at hlt
    rw [List.getElem?_range hlt] at hk
    cases hk
    exact ⟨hlt, fun y H' hy => ⟨hy.1, hy.2⟩⟩
theorem JAt.stop {ρ : List Addr} {st : Store} {H : Hp} {J : L2.It} {q : Sq} {tm : Option Addr} (R : Rep γ ρ st H) (h : JAt γ ρ st H J q tm) : J.stop q.xs.length H := by
  have one : ∀ {a : Addr} {vs : List V}, SqL γ.K H a vs → RepVs γ ρ H q.xs vs → (Itl γ.K a).stop q.xs.length H := fun {a vs} hs rv => ⟨vs, hs, by rw [rv.length]; exact Nat.le_refl _⟩
  rcases h with ⟨h1, h2, rv⟩ | ⟨h1, e⟩ | ⟨h0, h1, h2⟩ | ⟨h1, rv⟩ | ⟨e⟩ | ⟨e⟩
  · exact one (SqL.of h1) rv
  · exact one h1.sq (by rw [e]; exact RepVs.ints _)
  · obtain ⟨b, hb, ws, hw, rv⟩ := R.ob _ _ h2
    rw [h1] at hb; cases hb
    exact one (SqL.of hw) rv
  · exact ⟨_, h1.sq, by rw [rv.length]; exact Nat.le_refl _⟩
  · show _ ≤ q.xs.length
    rw [e]; unfold rngL; simp
  · show _ ≤ q.xs.length
    rw [e]; unfold rngC; simp
/-- it stays -/
theorem JAt.mono {ρ ρ' : List Addr} {st st' : Store} {H H' : Hp} {J : L2.It} {q : Sq} {tm : Option Addr} (R : Rep γ ρ st H) (h : JAt γ ρ st H J q tm) (e : Ext ρ H ρ' H') (hs : q.stays st' = true) : JAt γ ρ' st' H' J q tm := by
  rcases h with ⟨h1, h2, rv⟩ | ⟨h1, e1⟩ | ⟨h0, h1, h2⟩ | ⟨h1, rv⟩ | ⟨e1⟩ | ⟨e1⟩
  · refine .tmp (e.keep _ _ h1 h2 (fun _ z => by cases z)) (fun z => ?_) (rv.mono R e)
    rcases e.new _ z with z | z
    · exact h2 z
    · rw [h1] at z; cases z
  · exact .frz (h1.mono R e) e1
  · refine .ref h0 (e.get h1) ?_
    unfold Sq.stays at hs
    rw [h0] at hs
    simp only at hs
    split at hs
    · rename_i ys ey
      rw [ey, IV.eqbs_eq hs]
    · cases hs
  · exact .tup (h1.mono R e) (rv.mono R e)
  · exact .rng e1
  · exact .rngc e1
/-- what may be seen of a heap that differs in one list -/
structure Alike (H H' : Hp) : Prop where
  tup : ∀ a xs, H a = some (.tup xs) → H' a = some (.tup xs)
  frz : ∀ a o u, H a = some (.frz o u) → H' a = some (.frz o u)
  xd : ∀ a fs, H a = some (.xd fs) → H' a = some (.xd fs)
  ext : ∀ a φ, H a = some (.ext φ) → H' a = some (.ext φ)
theorem alike_upd {H : Hp} {D : Addr} {vs ws : List V} (h : H D = some (.lst vs)) : Alike H (L2.upd H D (.lst ws)) :=
  ⟨fun a xs q => by rw [upd_ne (fun z => by rw [z, h] at q; cases q)]; exact q, fun a o u q => by rw [upd_ne (fun z => by rw [z, h] at q; cases q)]; exact q, fun a fs q => by rw [upd_ne (fun z => by rw [z, h] at q; cases q)]; exact q, fun a φ q => by rw [upd_ne (fun z => by rw [z, h] at q; cases q)]; exact q⟩
theorem TupAt.alike {ky : Bool} {K : PySem.W.Frag} {H H' : Hp} (l : Alike H H') {a : Addr} {xs : List V} (h : TupAt ky K H a xs) : TupAt ky K H' a xs := by
  refine ⟨?_, h.or.imp_left fun ⟨ys, z⟩ => ⟨ys, l.tup _ _ z⟩, fun z => l.tup _ _ (h.ky z)⟩
  rcases h.sq with (z | ⟨o, z⟩) | told
  · exact SqT.of (l.tup _ _ z)
  · exact .inl (.inr ⟨o, l.frz _ _ _ z⟩)
  · exact .inr told
theorem FrzAt.alike {K : PySem.W.Frag} {H H' : Hp} (l : Alike H H') {a : Addr} {xs : List V} (h : FrzAt K H a xs) : FrzAt K H' a xs := h.imp_left fun ⟨o, z⟩ => ⟨o, l.frz _ _ _ z⟩
mutual
theorem RepV.alike {ρ : List Addr} {H H' : Hp} (l : Alike H H') : ∀ {x : IV} {v : V}, RepV γ ρ H x v → RepV γ ρ H' x v
  | .non, _, h => h
  | .bl _, _, h => h
  | .int _, _, h => h
  | .str _, _, h => h
  | .tup xs, _, h => by
    simp only [RepV] at h ⊢
    obtain ⟨a, vs, rfl, h1, h2⟩ := h
    exact ⟨a, vs, rfl, h1.alike l, RepVs.alike l h2⟩
  | .frz ns, _, h => by
    simp only [RepV] at h ⊢
    obtain ⟨a, rfl, h1⟩ := h
    exact ⟨a, rfl, h1.alike l⟩
  | .ref r, _, h => h
theorem RepVs.alike {ρ : List Addr} {H H' : Hp} (l : Alike H H') : ∀ {x : List IV} {v : List V}, RepVs γ ρ H x v → RepVs γ ρ H' x v
  | [], _, h => h
  | x :: xs, _, h => by
    simp only [RepVs] at h ⊢
    obtain ⟨w, ws, rfl, h1, h2⟩ := h
    exact ⟨w, ws, rfl, h1.alike l, RepVs.alike l h2⟩
end
theorem RepD.alike {ρ : List Addr} {H H' : Hp} (l : Alike H H') : ∀ {x : List (IV × IV)} {v : List (List L2.Key × V)}, RepD γ ρ H x v → RepD γ ρ H' x v
  | [], _, h => h
  | (k, x) :: xs, _, h => by
    simp only [RepD] at h ⊢
    obtain ⟨ys, kk, v, t', rfl, rfl, h1, h2, h3⟩ := h
    exact ⟨ys, kk, v, t', rfl, rfl, h1, h2.alike l, RepD.alike l h3⟩
theorem RepK.alike {ρ : List Addr} {H H' : Hp} (l : Alike H H') : ∀ {x : List (IV × IV)} {v : List (L2.Key × V)}, RepK γ ρ H x v → RepK γ ρ H' x v
  | [], _, h => h
  | (k, x) :: xs, _, h => by
    simp only [RepK] at h ⊢
    obtain ⟨kk, v, t', rfl, h1, h2, h3⟩ := h
    exact ⟨kk, v, t', rfl, h1, h2.alike l, RepK.alike l h3⟩
theorem RepO.alike {ρ : List Addr} {H H' : Hp} (l : Alike H H') {a : Addr} {o : IO} (ha : H' a = H a) (h : RepO γ ρ H a o) : RepO γ ρ H' a o := by
  cases o with
  | lst xs => obtain ⟨ws, h3, h4⟩ := h; exact ⟨ws, by rw [ha]; exact h3, h4.alike l⟩
  | dic kvs => obtain ⟨ks, h3, h4⟩ := h; exact ⟨ks, by rw [ha]; exact h3, h4.alike l⟩
  | dk kvs => obtain ⟨ks, h3, h4⟩ := h; exact ⟨ks, by rw [ha]; exact h3, h4.alike l⟩
  | ins c fs =>
    obtain ⟨C, dx, flds, gs, q1, q2, q3, q4, q5, q6, q7, q8⟩ := h
    refine ⟨C, dx, flds, gs, q1, by rw [ha]; exact q2, q3, q4, q5, q6, q7, fun j nm hj => ⟨fun x hx => ?_, (q8 j nm hj).2⟩⟩
    obtain ⟨w, w1, w2⟩ := (q8 j nm hj).1 x hx
    exact ⟨w, w1, w2.alike l⟩
/-- a list that is not of the store is written -/
theorem Rep.but {ρ : List Addr} {st : Store} {H : Hp} {D : Addr} {vs ws : List V} (R : Rep γ ρ st H) (hD : H D = some (.lst vs)) (n : D ∉ ρ) : Rep γ ρ st (L2.upd H D (.lst ws)) := by
  refine ⟨R.len, R.nd, fun i o q => ?_, TabsN.keep R.tb fun b v h n1 n2 n3 n4 => ?_⟩
  · obtain ⟨a, h1, h2⟩ := R.ob i o q
    exact ⟨a, h1, h2.alike (alike_upd hD) (upd_ne fun z => n (z ▸ List.mem_of_getElem? h1))⟩
  · rw [upd_ne]
    · exact h
    · rintro rfl
      rw [h] at hD; exact n1 _ (Option.some.inj hD)
theorem Ext.but {ρ0 ρ : List Addr} {H0 H : Hp} {D : Addr} {o : HO} (e : Ext ρ0 H0 ρ H) (h0 : H0 D = none) : Ext ρ0 H0 ρ (L2.upd H D o) :=
  ⟨e.pre, fun b u h n t => by rw [upd_ne (ne_of_none h h0)]; exact e.keep b u h n t, e.new, fun b hb => by
    by_cases q : b = D
    · rw [q]; exact h0
    · rw [upd_ne q] at hb; exact e.back b hb⟩
theorem JAt.but {ρ : List Addr} {st : Store} {H : Hp} {J : L2.It} {q : Sq} {tm : Option Addr} {D : Addr} {vs ws : List V} (h : JAt γ ρ st H J q tm) (hD : H D = some (.lst vs)) (n : D ∉ ρ) (ht : tm ≠ some D) : JAt γ ρ st (L2.upd H D (.lst ws)) J q tm := by
  have l := alike_upd (ws := ws) hD
  rcases h with ⟨h1, h2, rv⟩ | ⟨h1, e1⟩ | ⟨h0, h1, h2⟩ | ⟨h1, rv⟩ | ⟨e1⟩ | ⟨e1⟩
  · exact .tmp (by rw [upd_ne (fun z => ht (by rw [z]))]; exact h1) h2 (rv.alike l)
  · exact .frz (h1.alike l) e1
  · exact .ref h0 h1 h2
  · exact .tup (h1.alike l) (rv.alike l)
  · exact .rng e1
  · exact .rngc e1
/-- an iterable's outcome -/
def AftI (γ : Gm) (ρ : List Addr) (H : Hp) (r : Res Sq) (R : L2.It → Hp → Prop) (E : XK) : Prop := match r with
  | .ok q st => ∀ ρ' H' J tm, Ext ρ H ρ' H' → Rep γ ρ' st H' → JAt γ ρ' st H' J q tm → (∀ a, tm = some a → H' a ≠ none ∧ H a = none) → R J H'
  | .exc e st => ∀ ρ' H' cls d, Ext ρ H ρ' H' → Rep γ ρ' st H' → RepX γ ρ' H' e cls d → E cls d H'
  | .bad => False
def tIt (γ : Gm) (W : WX) (hx : HX) (m : Env → Store → Res Sq) : TI := fun σ H R => ∃ ρ env st, hx env.hx σ ∧ Rep γ ρ st H ∧ REnv γ hx ρ H env σ ∧ AftI γ ρ H (m env st) R (fun cls d H' => W cls d σ H')
theorem Aft.bindI {ρ : List Addr} {H : Hp} {r : Res TV} {f : TV → Store → Res Sq} {R : L2.It → Hp → Prop} {E : XK} (h : AftI γ ρ H (r.bind f) R E) :
    Aft γ ρ H r (fun v H1 => ∃ ρ1 st1 x, Ext ρ H ρ1 H1 ∧ Rep γ ρ1 st1 H1 ∧ RepT γ ρ1 H1 x v ∧ (∀ a ∈ ownA x v, H a = none) ∧ AftI γ ρ H (f x st1) R E) E := by
  cases r with
  | ok x st => exact fun ρ' H' v e R T o => ⟨ρ', st, x, e, R, T, o, h⟩
  | exc x st => exact h
  | bad => exact h
theorem AftI.ext {ρ ρ1 : List Addr} {H H1 : Hp} {r : Res Sq} {R : L2.It → Hp → Prop} {E : XK} (h : AftI γ ρ H r R E) (e : Ext ρ H ρ1 H1) : AftI γ ρ1 H1 r R E := by
  cases r with
  | ok x st => exact fun ρ' H' J tm e' R T o => h ρ' H' J tm (e.trans e') R T fun a z => ⟨(o a z).1, e.back a (o a z).2⟩
  | exc x st => exact fun ρ' H' cls d e' R T => h ρ' H' cls d (e.trans e') R T
  | bad => exact h
theorem AftI.now {ρ : List Addr} {H : Hp} {q : Sq} {st : Store} {R : L2.It → Hp → Prop} {E : XK} {J : L2.It} {tm : Option Addr} (h : AftI γ ρ H (.ok q st) R E) (Rp : Rep γ ρ st H) (j : JAt γ ρ st H J q tm) (o : ∀ a, tm = some a → H a ≠ none ∧ H a = none) : R J H :=
  h ρ H J tm (.refl ρ H) Rp j o
/-- what is walked is a tuple's -/
def isTV : TV → Bool
  | .v (.tup _) => true
  | _ => false
theorem sq_list {ρ : List Addr} {H : Hp} {st : Store} {x : TV} {v : V} {q : Sq} (R : Rep γ ρ st H) (T : RepT γ ρ H x v) (hs : sqOf st x = some q) (ht : isTV x = false) :
    ∃ a vs tm, v = .ref a ∧ SqL γ.K H a vs ∧ JAt γ ρ st H (Itl γ.K a) q tm ∧ ∀ b, tm = some b → H b ≠ none ∧ b ∈ ownA x v := by
  cases x with
  | l xs =>
    obtain ⟨a, vs, e, h1, h2, h3⟩ := T
    simp only [sqOf, Option.some.injEq] at hs
    subst hs
    exact ⟨a, vs, some a, e, SqL.of h1, .tmp h1 h2 h3, fun b z => by cases z; rw [h1, e]; simp [ownA]⟩
  | v x =>
    cases x with
    | ref r =>
      simp only [sqOf] at hs
      split at hs
      · rename_i xs ex
        cases hs
        simp only [RepT, RepV] at T
        obtain ⟨a, ha, e⟩ := T
        obtain ⟨b, hb, ws, hw, _⟩ := R.ob _ _ ex
        rw [ha] at hb
        cases hb
        exact ⟨a, ws, none, e, SqL.of hw, .ref rfl ha ex, fun b z => by cases z⟩
      · cases hs
    | frz ns =>
      simp only [sqOf, Option.some.injEq] at hs
      subst hs
      simp only [RepT, RepV] at T
      obtain ⟨a, e, h1⟩ := T
      exact ⟨a, _, none, e, h1.sq, .frz h1 rfl, fun b z => by cases z⟩
    | tup _ => simp [isTV] at ht
    | _ => simp [sqOf] at hs
  | _ => simp [sqOf] at hs
theorem i_e {G : Orc} {me : FnDef} {hx : HX} {e : E} {tg l : Expr} (g : Good γ X sc W) (h : PE X l (tI γ W hx (evE G me e))) : PI X tg l (tIt γ W hx (evIt G me (.e e))) := by
  refine ⟨fun pn s0 σ0 Ha R0 I0 hq => ?_⟩
  obtain ⟨ρ, env, st, hh, Rp, Re, A⟩ := hq
  simp only [evIt] at A
  cases hm : evE G me e env st with
  | bad => rw [hm] at A; exact A.elim
  | exc x st1 =>
    rw [hm] at A
    exact (pi_list h).run pn s0 σ0 Ha R0 I0 ⟨ρ, env, st, hh, Rp, Re, by rw [hm]; exact A⟩
  | ok x st1 =>
    rw [hm] at A
    simp only [Res.bind] at A
    cases hs : sqOf st1 x with
    | none => rw [hs] at A; exact A.elim
    | some q =>
      rw [hs] at A
      cases ht : isTV x with
      | false =>
        refine (pi_list h).run pn s0 σ0 Ha R0 I0 ⟨ρ, env, st, hh, Rp, Re, ?_⟩
        rw [hm]
        intro ρ1 H1 v e1 R1 T1 fr1
        obtain ⟨a, vs, tm, ev, hl, j1, n1⟩ := sq_list R1 T1 hs ht
        rw [g.hK]
        exact ⟨a, ev, ⟨vs, hl⟩, A ρ1 H1 _ tm e1 R1 j1 fun b z => ⟨(n1 b z).1, fr1 b (n1 b z).2⟩⟩
      | true =>
        refine (pi_tup h).run pn s0 σ0 Ha R0 I0 ⟨ρ, env, st, hh, Rp, Re, ?_⟩
        rw [hm]
        intro ρ1 H1 v e1 R1 T1 _
        cases x with
        | v y =>
          cases y with
          | tup xs =>
            simp only [sqOf, Option.some.injEq] at hs
            subst hs
            simp only [RepT, RepV] at T1
            obtain ⟨a, vs, ev, h1, h2⟩ := T1
            rw [g.hK]
            exact ⟨a, ev, ⟨vs, h1.sq⟩, A ρ1 H1 _ none e1 R1 (.tup h1 h2) (fun b z => by cases z)⟩
          | _ => simp [isTV] at ht
        | _ => simp [isTV] at ht
theorem inB_iff {i : Int} (h : inB i = true) : -(2 ^ 62) ≤ i ∧ i < 2 ^ 62 := by
  unfold inB big at h
  simp only [Bool.and_eq_true, decide_eq_true_eq] at h
  omega
theorem i_r1 {G : Orc} {me : FnDef} {hx : HX} {a : E} {tg l : Expr} {p pos : Pos} (g : Good γ X sc W) (hg : globB sc "range" = true) (hl : notStar l = true) (h : PE X l (tI γ W hx (evE G me a))) : PI X tg (.Call (.Name "range" p) [l] [] pos) (tIt γ W hx (evIt G me (.rng1 a))) := by
  obtain ⟨q1, q2, q3⟩ := g.gl hg
  have hm := g.free "range" (by decide +kernel)
  refine ⟨fun pins s σ H R I hq => (pi_range1 q1 hm (pa_cons h pa_nil (star_one hl _ _)) (star_one hl _ _)).run pins s σ H R I ?_⟩
  obtain ⟨ρ, env, st, hh, Rp, Re, A⟩ := hq
  simp only [evIt] at A
  refine ⟨ρ, env, st, hh, Rp, Re, (Aft.bindI A).imp fun v H1 h1 => ?_⟩
  obtain ⟨ρ1, st1, x, e1, R1, T1, fr1, A1⟩ := h1
  have A1 := AftI.ext A1 e1
  split at A1
  · simp only [RepT, RepV] at T1; subst T1
    split at A1
    · rename_i hn
      have := inB_iff hn
      exact ⟨_, rfl, this.1, this.2, AftI.now A1 R1 (.rng rfl) (fun a z => by cases z)⟩
    · exact A1.elim
  · exact A1.elim
theorem i_r2 {G : Orc} {me : FnDef} {hx : HX} {a b : E} {tg l r : Expr} {p pos : Pos} (g : Good γ X sc W) (hg : globB sc "range" = true) (hl : notStar l = true) (hr : notStar r = true) (h : PE X l (tI γ W hx (evE G me a))) (h' : PE X r (tI γ W hx (evE G me b))) :
    PI X tg (.Call (.Name "range" p) [l, r] [] pos) (tIt γ W hx (evIt G me (.rng2 a b))) := by
  obtain ⟨q1, q2, q3⟩ := g.gl hg
  have hm := g.free "range" (by decide +kernel)
  refine ⟨fun pins s σ H R I hq => (pi_range2 q1 hm (pa_cons h (pa_cons h' pa_nil (star_one hr _ _)) (star_one hl _ _)) (by rw [star_one hl, star_one hr]; rfl) (by rw [star_one hr]; rfl)).run pins s σ H R I ?_⟩
  obtain ⟨ρ, env, st, hh, Rp, Re, A⟩ := hq
  simp only [evIt] at A
  refine ⟨ρ, env, st, hh, Rp, Re, (Aft.bindI A).imp fun v H1 h1 => ?_⟩
  obtain ⟨ρ1, st1, x, e1, R1, T1, fr1, A1⟩ := h1
  refine ⟨ρ1, env, st1, hh, R1, Re.mono Rp e1, (Aft.bindI (AftI.ext A1 e1)).imp fun w H2 h2 => ?_⟩
  obtain ⟨ρ2, st2, y, e2, R2, T2, fr2, A2⟩ := h2
  have A2 := AftI.ext A2 e2
  have T1' := T1.mono R1 e2
  split at A2
  · simp only [RepT, RepV] at T1' T2; subst T1' T2
    split at A2
    · rename_i hn
      rw [Bool.and_eq_true] at hn
      have h1 := inB_iff hn.1
      have h2 := inB_iff hn.2
      exact ⟨_, _, rfl, ⟨h1.1, h1.2, h2.1, h2.2⟩, AftI.now A2 R2 (.rng rfl) (fun a z => by cases z)⟩
    · exact A2.elim
  · exact A2.elim

/-! ### comprehensions -/
theorem wipe_len (σ : L2.St) (l : List Nat) : (wipe σ l).length = σ.length := wipe_length σ l
theorem wipe_get {σ : L2.St} : ∀ {l : List Nat} {j : Nat}, (wipe σ l)[j]? = if j ∈ l ∧ j < σ.length then some none else σ[j]?
  | [], j => by simp [wipe]
  | v :: vs, j => by
    unfold wipe
    by_cases hj : v = j
    · subst hj
      by_cases hl : v < (wipe σ vs).length
      · rw [List.getElem?_set_self hl]
        rw [wipe_length] at hl
        simp [hl]
      · rw [List.getElem?_eq_none (by simpa using hl)]
        rw [wipe_length] at hl
        rw [if_neg (fun z => hl z.2), List.getElem?_eq_none (by omega)]
    · rw [List.getElem?_set_ne hj, wipe_get]
      have : (j ∈ v :: vs) ↔ j ∈ vs := by simp [Ne.symm hj]
      simp only [this]
theorem wipe_same {σ σ' : L2.St} {l m : List Nat} (s : SameBut l σ σ') (h : ∀ j ∈ l, j ∈ m) : wipe σ' m = wipe σ m := by
  apply List.ext_getElem?
  intro j
  rw [wipe_get, wipe_get, s.1]
  split
  · rfl
  · rename_i hn
    by_cases hj : j ∈ m
    · have hl : ¬ j < σ.length := fun z => hn ⟨hj, z⟩
      rw [List.getElem?_eq_none (by rw [s.1]; omega), List.getElem?_eq_none (by omega)]
    · exact s.2 j fun z => hj (h j z)
theorem wipe_wipe {σ : L2.St} {l : List Nat} : wipe (wipe σ l) l = wipe σ l := by
  apply List.ext_getElem?
  intro j
  rw [wipe_get, wipe_length, wipe_get]
  split
  · rfl
  · rfl
theorem wipeN_get {σ : List (Option IV)} : ∀ {l : List Nat} {j : Nat} {x : IV}, (wipeN σ l)[j]? = some (some x) → σ[j]? = some (some x) ∧ j ∉ l
  | [], j, x, h => ⟨h, by simp⟩
  | v :: vs, j, x, h => by
    unfold wipeN at h
    by_cases hj : v = j
    · subst hj
      by_cases hl : v < (wipeN σ vs).length
      · rw [List.getElem?_set_self hl] at h; cases h
      · rw [List.getElem?_eq_none (by simpa using hl)] at h; cases h
    · rw [List.getElem?_set_ne hj] at h
      obtain ⟨h1, h2⟩ := wipeN_get h
      exact ⟨h1, by simp only [List.mem_cons, not_or]; exact ⟨fun e => hj e.symm, h2⟩⟩
theorem wipeN_len (σ : List (Option IV)) : ∀ l : List Nat, (wipeN σ l).length = σ.length
  | [] => rfl
  | v :: vs => by unfold wipeN; rw [List.length_set, wipeN_len σ vs]
theorem REnv.wipe {hx : HX} {ρ : List Addr} {H : Hp} {env : Env} {σ : L2.St} (h : REnv γ hx ρ H env σ) (l : List Nat) : REnv γ hx ρ H { env with sl := wipeN env.sl l, lm := [] } (L2.wipe σ l) := by
  refine ⟨by rw [wipe_len]; show (wipeN env.sl l).length = _; rw [wipeN_len]; exact h.len, fun i x q => ?_, h.hv, fun q hq => absurd (show q ∈ [] from hq) (by simp), h.la⟩
  obtain ⟨h1, h2⟩ := wipeN_get q
  obtain ⟨v, h3, h4⟩ := h.sl i x h1
  refine ⟨v, ?_, h4⟩
  rw [wipe_get, if_neg (fun z => h2 z.1)]
  exact h3
theorem LamAt.alike {H H' : Hp} {L : LT} {f : Addr} (l : Alike H H') (h : LamAt H L f) : LamAt H' L f := by
  obtain ⟨c', dV, h1, h2, h3⟩ := h
  refine ⟨c', dV, l.ext _ _ h1, l.ext _ _ h2, ?_⟩
  rcases h3 with h3 | ⟨t, q1, q2, q3⟩
  · exact .inl h3
  · exact .inr ⟨t, q1, q2, l.ext _ _ q3⟩
theorem REnv.alike {hx : HX} {ρ : List Addr} {H H' : Hp} {env : Env} {σ : L2.St} (h : REnv γ hx ρ H env σ) (h0 : env.lm = []) (l : Alike H H') : REnv γ hx ρ H' env σ :=
  ⟨h.len, fun i x q => let ⟨v, h1, h2⟩ := h.sl i x q; ⟨v, h1, h2.alike l⟩, fun x q => by
    obtain ⟨p, h1, C, f, q1, q2, q3⟩ := h.hv x q
    refine ⟨p, h1, C, f, q1, q2, ?_⟩
    split at q3
    · exact q3
    · obtain ⟨dd, v, z1, z2, z3⟩ := q3
      exact ⟨dd, v, z1, l.xd _ _ z2, z3.alike l⟩
    · exact q3.elim, fun q hq => by (rw [h0] at hq; cases hq), fun p hp => LamAt.alike l (h.la p hp)⟩
/-- the tests of a clause -/
def AftB (γ : Gm) (ρ : List Addr) (H : Hp) (r : Res Bool) (Q : Bool → Hp → Prop) : Prop := match r with
  | .ok b st => ∀ ρ' H', Ext ρ H ρ' H' → Rep γ ρ' st H' → Q b H'
  | .exc _ _ => False
  | .bad => False
def tIfs (γ : Gm) (hx : HX) (m : Env → Store → Res Bool) : TT := fun σ H Q => ∃ ρ env st, hx env.hx σ ∧ Rep γ ρ st H ∧ REnv γ hx ρ H env σ ∧ AftB γ ρ H (m env st) Q
theorem ifs_nil {G : Orc} {me : FnDef} {hx : HX} : PTs X [] (tIfs γ hx (evIfs G me [])) := ⟨fun pins s σ H Q I h => pts_nil.run pins s σ H Q I (by
  obtain ⟨ρ, env, st, _, R, _, A⟩ := h
  simp only [evIfs] at A
  exact A ρ H (.refl ρ H) R)⟩
theorem ifs_one {G : Orc} {me : FnDef} {hx : HX} {e : E} {a : Expr} (h : PT X a (tB (tI γ noW hx (evE G me e)))) : PTs X [a] (tIfs γ hx (evIfs G me [e])) := ⟨fun pins s σ H Q I q => (pts_one h).run pins s σ H Q I (by
  obtain ⟨ρ, env, st, hh, R, Re, A⟩ := q
  simp only [evIfs] at A
  refine ⟨ρ, env, st, hh, R, Re, ?_⟩
  cases hm : evE G me e env st with
  | ok x s1 =>
    rw [hm] at A
    simp only [Res.bind] at A
    intro ρ' H' v e' R' T fr
    split at A
    · exact ⟨true, boolOf_rep T ‹_›, A ρ' H' e' R'⟩
    · exact ⟨false, boolOf_rep T ‹_›, A ρ' H' e' R'⟩
    · exact A.elim
  | exc _ _ => rw [hm] at A; exact (show False from A).elim
  | bad => rw [hm] at A; exact A)⟩
theorem quiet_ok {α : Type} {r : Res α} {a : α} {st : Store} : r.quiet = .ok a st ↔ r = .ok a st := by
  cases r <;> simp [Res.quiet]
/-- what a comprehension's reading wants -/
theorem comp_read {G : Orc} {me : FnDef} {hx : HX} {own : List Nat} {pt : Pt} {it : MP.It} {ifs : List E} {e : E} {σ : L2.St} {H : Hp} {Q : VK} (hxT : ∀ o σ, hx o σ) (hs : ∀ j ∈ slots pt, j ∈ own) (h : tI γ W hx (evE G me (.comp own pt it ifs e)) σ H Q) :
    tLc (tIt γ W hx (evIt G me it)) (tP γ hx (slots pt) (fun x env st => pat G me pt x env st)) (tIfs γ hx (evIfs G me ifs)) (tI γ noW hx (evE G me e)) own σ H Q := by
  obtain ⟨ρ, env, st, hh, R, Re, A⟩ := h
  simp only [evE] at A
  refine ⟨ρ, env, st, hh, R, Re, ?_⟩
  cases hm : evIt G me it env st with
  | bad => rw [hm] at A; exact A
  | exc _ _ => rw [hm] at A; exact A
  | ok q st1 =>
    rw [hm] at A
    simp only [Res.bind] at A
    intro ρ1 H1 J tm e1 R1 j1 tmn D hD
    have nD1 : D ∉ ρ1 := fun z => R1.tracked z hD
    have tD : tm ≠ some D := fun z => (tmn D z).1 hD
    have hD0 : H D = none := e1.back D hD
    have env0 : ∃ env0 : Env, env0 = { env with sl := wipeN env.sl own, lm := [] } := ⟨_, rfl⟩
    obtain ⟨env0, he0⟩ := env0
    rw [← he0] at A
    refine ⟨fun i m H' => m = q.xs.length - i ∧ i ≤ q.xs.length ∧ ∃ ρ2 st2 acc vs, Ext ρ H ρ2 H' ∧ Rep γ ρ2 st2 H' ∧ JAt γ ρ2 st2 H' J q tm ∧ REnv γ hx ρ2 H' env0 (wipe σ own) ∧ H' D = some (.lst vs) ∧ D ∉ ρ2 ∧ RepVs γ ρ2 H' acc vs ∧
      Aft γ ρ H (compF q env0 (fun env x st => pat G me pt (.v x) env st) (fun env st => evIfs G me ifs env st) (fun env st => evE G me e env st) (q.xs.drop i) acc st2) Q (fun cls d H' => W cls d σ H'), ⟨q.xs.length, by simp, Nat.zero_le _, ρ1, st1, [], [], ?_⟩, ?_⟩
    · have l : Ext ρ1 H1 ρ1 (upd H1 D (.lst [])) := Ext.laid hD
      have hst : q.stays st1 = true := by
        unfold compF at A
        split at A
        · split at A
          · assumption
          · exact A.elim
        · split at A
          · assumption
          · exact A.elim
      refine ⟨e1.trans l, R1.laid hD, j1.mono R1 l hst, ?_, upd_same, nD1, by simp [RepVs], by simpa using A⟩
      rw [he0]
      exact ((Re.mono R e1).mono R1 l).wipe own
    · rintro i m H2 ⟨rfl, hi, ρ2, st2, acc, vs, e2, R2, j2, Re2, hD2, nD2, rv2, A2⟩
      by_cases hlt : i < q.xs.length
      · refine .inr ?_
        have hx' : q.xs[i]? = some q.xs[i] := List.getElem?_eq_getElem hlt
        obtain ⟨g1, g2⟩ := j2.go R2 hx'
        rw [List.drop_eq_getElem_cons hlt] at A2
        unfold compF at A2
        split at A2
        · rename_i hst2
          refine ⟨g1, fun H' => ∃ ρ3 st3 acc vs, Ext ρ H ρ3 H' ∧ Rep γ ρ3 st3 H' ∧ (q.stays st3 = true → JAt γ ρ3 st3 H' J q tm) ∧ REnv γ hx ρ3 H' env0 (wipe σ own) ∧ H' D = some (.lst vs) ∧ D ∉ ρ3 ∧ RepVs γ ρ3 H' acc vs ∧
            Aft γ ρ H (compF q env0 (fun env x st => pat G me pt (.v x) env st) (fun env st => evIfs G me ifs env st) (fun env st => evE G me e env st) (q.xs.drop (i + 1)) acc st3) Q (fun cls d H' => W cls d σ H'), fun H' z => ?_, fun y H' hy => ?_⟩
          · obtain ⟨ρ3, st3, acc, vs, z1, z2, z3, z4, z5, z6, z7, z8⟩ := z
            have hst3 : q.stays st3 = true := by
              have z8' := z8
              unfold compF at z8'
              split at z8'
              · split at z8'
                · assumption
                · exact z8'.elim
              · split at z8'
                · assumption
                · exact z8'.elim
            exact ⟨q.xs.length - (i + 1), by omega, rfl, hlt, ρ3, st3, acc, vs, z1, z2, z3 hst3, z4, z5, z6, z7, z8⟩
          · obtain ⟨rfl, ry⟩ := g2 y H' hy
            refine ⟨ρ2, H', ρ2, env0, st2, .v q.xs[i], hxT _ _, .refl ρ2 H', R2, Re2, Re2.old, ry, (fun a ha => by simp [ownA] at ha), ?_⟩
            show AftP γ ρ2 H' (wipe σ own) (slots pt) hx (pat G me pt (.v q.xs[i]) env0 st2) _
            cases hm3 : pat G me pt (.v q.xs[i]) env0 st2 with
            | bad => rw [hm3] at A2; exact A2.elim
            | exc _ _ => rw [hm3] at A2; exact A2.elim
            | ok env3 st3 =>
              rw [hm3] at A2
              simp only [Res.quiet, Res.bind] at A2
              intro ρ3 H3 σ3 e3 R3 Re3 hh3 s3
              refine ⟨(wipe_same s3 hs).trans wipe_wipe, ρ3, env3, st3, hh3, R3, Re3, ?_⟩
              cases hm4 : evIfs G me ifs env3 st3 with
              | bad => rw [hm4] at A2; exact A2.elim
              | exc _ _ => rw [hm4] at A2; exact A2.elim
              | ok b st4 =>
                rw [hm4] at A2
                simp only [Res.quiet, Res.bind] at A2
                intro ρ4 H4 e4 R4
                have e34 := e3.trans e4
                have hD4 : H4 D = some (.lst vs) := e34.keep _ _ hD2 nD2 (fun _ z => by cases z)
                have nD4 : D ∉ ρ4 := fun z => by
                  rcases e34.new D z with z | z
                  · exact nD2 z
                  · rw [hD2] at z; cases z
                cases b with
                | false =>
                  refine iteF ⟨ρ4, st4, acc, vs, e2.trans e34, R4, fun hst => j2.mono R2 e34 hst, Re2.mono R2 e34, hD4, nD4, rv2.mono R2 e34, ?_⟩
                  simpa using A2
                | true =>
                  refine iteT ⟨ρ4, env3, st4, hh3, R4, Re3.mono R3 e4, ?_⟩
                  have A2 : Aft γ ρ H ((evE G me e env3 st4).quiet.bind fun y st => (mat y st).bind fun y st => if acc.length < lineN then compF q env0 (fun env x st => pat G me pt (.v x) env st) (fun env st => evIfs G me ifs env st) (fun env st => evE G me e env st) (q.xs.drop (i + 1)) (acc ++ [y]) st else .bad) Q (fun cls d H' => W cls d σ H') := by rw [if_pos rfl] at A2; exact A2
                  cases hm5 : evE G me e env3 st4 with
                  | bad => rw [hm5] at A2; exact A2.elim
                  | exc _ _ => rw [hm5] at A2; exact A2.elim
                  | ok y st5 =>
                    rw [hm5] at A2
                    simp only [Res.quiet, Res.bind] at A2
                    intro ρ5 H5 w e5 R5 T5 fr5
                    cases hm6 : mat y st5 with
                    | bad => rw [hm6] at A2; exact A2.elim
                    | exc _ _ => exact absurd hm6 mat_noexc
                    | ok z st6 =>
                      rw [hm6] at A2
                      simp only [Res.bind] at A2
                      obtain ⟨R6, r6⟩ := mat_ok R5 T5 hm6
                      have e345 := e34.trans e5
                      have hD5 : H5 D = some (.lst vs) := e345.keep _ _ hD2 nD2 (fun _ z => by cases z)
                      have fr2 : ∀ a ∈ ownA y w, H' a = none := fun a ha => e34.back a (fr5 a ha)
                      have frH : ∀ a ∈ ownA y w, H a = none := fun a ha => e2.back a (fr2 a ha)
                      have nDo : D ∉ ρ5 ++ ownA y w := fun z => by
                        rcases List.mem_append.mp z with z | z
                        · rcases e345.new D z with z | z
                          · exact nD2 z
                          · rw [hD2] at z; cases z
                        · have := fr2 D z
                          rw [hD2] at this; cases this
                      have eM : Ext ρ2 H' (ρ5 ++ ownA y w) H5 := e345.mat fr2
                      split at A2
                      · rename_i hlen
                        have al := alike_upd (ws := vs ++ [w]) hD5
                        refine ⟨vs, hD5, by rw [rv2.length, sizeLine_n]; exact hlen, ρ5 ++ ownA y w, st6, acc ++ [z], vs ++ [w], ((e2.trans e345).mat frH).but hD0, R6.but hD5 nDo, fun hst => ?_, (Re2.mono R2 eM).alike (by rw [he0]) al, upd_same, nDo, ?_, A2⟩
                        · exact (j2.mono R2 eM hst).but hD5 nDo tD
                        · exact ((rv2.mono R2 eM).alike al).app (by simp only [RepVs]; exact ⟨_, _, rfl, r6.alike al, rfl⟩)
                      · exact A2.elim
        · exact A2.elim
      · have e : i = q.xs.length := by omega
        subst e
        refine .inl ⟨j2.stop R2, ?_⟩
        rw [List.drop_length] at A2
        unfold compF at A2
        split at A2
        · exact A2 ρ2 H2 _ e2 R2 ⟨D, vs, rfl, hD2, nD2, rv2⟩ (fun a ha => by simp only [ownA, List.mem_singleton] at ha; rw [ha]; exact hD0)
        · exact A2.elim
end
end MP

set_option linter.all false
set_option autoImplicit false
set_option Elab.async false
set_option maxRecDepth 100000
namespace MP
open PySem L2 PySem.Spec PyProof.Rows
section
variable {γ : Gm} {X : Cx} {sc : Sc} {W : WX} {G : Orc} {me : FnDef} {hx : HX}
/-! ### is of bools -/
def rIsA : R2 := fun x y H Q => ∃ b : Bool, y = .bl b ∧ Q (.bl (decide (x = .bl b))) H
def rNotA : R2 := fun x y H Q => ∃ b : Bool, y = .bl b ∧ Q (.bl (!decide (x = .bl b))) H
theorem is_plain_bl {H : Hp} {x : L2.V} {v : Value} {b : Bool} (rx : RelV x v) : plainIs v (.bool b) = true ∧ (v == .bool b) = decide (x = .bl b) := by
  by_cases e : x = .bl b
  · subst e
    cases (show v = Value.bool b from rx)
    exact ⟨rfl, by simp⟩
  · have hv : v ≠ .bool b := fun z => by
      subst z
      cases x <;> first
        | (obtain ⟨t, z⟩ := rx; cases z; done)
        | (cases rx; done)
        | (cases rx; exact e rfl)
    refine ⟨?_, by rw [decide_eq_false e]; exact beq_eq_false_iff_ne.mpr hv⟩
    cases x <;> first
      | (cases rx; rfl)
      | (obtain ⟨t, rfl⟩ := rx; rfl)
theorem op_isA : OpR X (compareOp .Is) rIsA := by
  intro pins s σ H x y v u Q I rx ry h
  obtain ⟨b, rfl, q⟩ := h
  cases (show u = Value.bool b from ry)
  obtain ⟨hp, he⟩ := is_plain_bl (H := H) (b := b) rx
  exact wpAny_is_plain hp ⟨.bl (decide (x = .bl b)), H, I, congrArg Value.bool he, q⟩
theorem op_notA : OpR X (compareOp .IsNot) rNotA := by
  intro pins s σ H x y v u Q I rx ry h
  obtain ⟨b, rfl, q⟩ := h
  cases (show u = Value.bool b from ry)
  obtain ⟨hp, he⟩ := is_plain_bl (H := H) (b := b) rx
  exact wpAny_isNot_plain hp ⟨.bl (!decide (x = .bl b)), H, I, congrArg (fun z => Value.bool (!z)) he, q⟩
theorem isBv_is {ρ : List Addr} {H : Hp} {y : IV} {v : L2.V} {b : Bool} (T : RepV γ ρ H y v) : decide (v = .bl b) = isBv b y := by
  cases y with
  | bl c => simp only [RepV] at T; subst T; simp [isBv]
  | tup _ => simp only [RepV] at T; obtain ⟨_, _, e, _⟩ := T; subst e; rfl
  | frz _ => simp only [RepV] at T; obtain ⟨_, e, _⟩ := T; subst e; rfl
  | ref _ => simp only [RepV] at T; obtain ⟨_, _, e⟩ := T; subst e; rfl
  | _ => simp only [RepV] at T; subst T; rfl
theorem s_isB {a : E} {l : Expr} {j : Nat} {p pos : Pos} {b : Bool} (ha : PE X l (tI γ W hx (evE G me a))) : PE X (.Compare l [.Is] [.Constant (.bool b) j p] pos) (tI γ W hx (evE G me (.isB true b a))) ∧ PT X (.Compare l [.Is] [.Constant (.bool b) j p] pos) (tB (tI γ W hx (evE G me (.isB true b a)))) := by
  refine ⟨PE.imp (pe_cmpR op_isA ha pe_bl rfl) fun σ H Q h => ?_, PT.imp (pt_cmpR op_isA ha pe_bl rfl) fun σ H Q h => ?_⟩
  all_goals
    simp only [tB, evE] at h
    refine one_step (fun ρ st x H v E R T A => ?_) h
    split at A
    · rename_i y
      simp only [RepT] at T
      refine ⟨b, rfl, ?_⟩
      rw [isBv_is T]
      exact A.val R rfl
    · exact A.elim
theorem s_notB {a : E} {l : Expr} {j : Nat} {p pos : Pos} {b : Bool} (ha : PE X l (tI γ W hx (evE G me a))) : PE X (.Compare l [.IsNot] [.Constant (.bool b) j p] pos) (tI γ W hx (evE G me (.isB false b a))) ∧ PT X (.Compare l [.IsNot] [.Constant (.bool b) j p] pos) (tB (tI γ W hx (evE G me (.isB false b a)))) := by
  refine ⟨PE.imp (pe_cmpR op_notA ha pe_bl rfl) fun σ H Q h => ?_, PT.imp (pt_cmpR op_notA ha pe_bl rfl) fun σ H Q h => ?_⟩
  all_goals
    simp only [tB, evE] at h
    refine one_step (fun ρ st x H v E R T A => ?_) h
    split at A
    · rename_i y
      simp only [RepT] at T
      refine ⟨b, rfl, ?_⟩
      rw [isBv_is T]
      exact A.val R rfl
    · exact A.elim
/-! ### chains of three -/
/-- what a chain of three asks -/
def tCh3 (r1 r2 r3 : R2) (ta tb tc td : TE) : TE := fun σ H Q => ta σ H fun x H1 => tb σ H1 fun y H2 => r1 x y H2 fun k H3 => ∃ f : Bool, k = .bl f ∧
  (f = false → Q (.bl false) H3) ∧ (f = true → tc σ H3 fun z H4 => r2 y z H4 fun k H5 => ∃ f : Bool, k = .bl f ∧ (f = false → Q (.bl false) H5) ∧ (f = true → td σ H5 fun u H6 => r3 z u H6 Q))
section
variable {o1 o2 o3 : CmpOp} {r1 r2 r3 : R2} {a b c d : Expr} {ta tb tc td : TE} {pos : Pos}
theorem pe_ch3 (w1 : OpR X (compareOp o1) r1) (w2 : OpR X (compareOp o2) r2) (w3 : OpR X (compareOp o3) r3) (ka : PE X a ta) (kb : PE X b tb) (kc : PE X c tc) (kd : PE X d td) (hm : lastMarks [o1, o2, o3] [b, c, d] = false) : PE X (.Compare a [o1, o2, o3] [b, c, d] pos) (tCh3 r1 r2 r3 ta tb tc td) := by
  constructor
  intro pins s σ H Q inv reading
  refine Compare_chain ?_ hm
  refine thn (ka.run pins s σ H _ inv reading) ?_
  rintro va sa ⟨x, Ha, Ia, ra, qa⟩
  apply chain_link
  refine thn (kb.run pins sa σ Ha _ Ia qa) ?_
  rintro vb sb ⟨y, Hb, Ib, rb, qb⟩
  refine thn (w1 pins sb σ Hb x y va vb _ Ib ra rb qb) ?_
  rintro _ sk ⟨_, Hk, Ik, rk, f, rfl, no, yes⟩
  cases rk
  apply wpAny_truthy_bool
  cases f
  · exact ite_ff ⟨.bl false, Hk, Ik, rfl, no rfl⟩
  apply ite_tt
  apply chain_link
  refine thn (kc.run pins sk σ Hk _ Ik (yes rfl)) ?_
  rintro vc sc ⟨z, Hc, Ic, rc, qc⟩
  refine thn (w2 pins sc σ Hc y z vb vc _ Ic rb rc qc) ?_
  rintro _ sl ⟨_, Hl, Il, rl, f, rfl, no, yes⟩
  cases rl
  apply wpAny_truthy_bool
  cases f
  · exact ite_ff ⟨.bl false, Hl, Il, rfl, no rfl⟩
  apply ite_tt
  apply chain_last
  refine thn (kd.run pins sl σ Hl _ Il (yes rfl)) ?_
  rintro vd sd ⟨u, Hd, Id, rd, qd⟩
  exact w3 pins sd σ Hd z u vc vd Q Id rc rd qd
theorem pt_ch3 (w1 : OpR X (compareOp o1) r1) (w2 : OpR X (compareOp o2) r2) (w3 : OpR X (compareOp o3) r3) (ka : PE X a ta) (kb : PE X b tb) (kc : PE X c tc) (kd : PE X d td) (hm : lastMarks [o1, o2, o3] [b, c, d] = false) : PT X (.Compare a [o1, o2, o3] [b, c, d] pos) (tTest (tCh3 r1 r2 r3 ta tb tc td)) := by
  constructor
  intro pins s σ H Q inv reading
  refine isTrue_chain ?_ hm
  refine thn (ka.run pins s σ H _ inv reading) ?_
  rintro va sa ⟨x, Ha, Ia, ra, qa⟩
  apply test_link
  refine thn (kb.run pins sa σ Ha _ Ia qa) ?_
  rintro vb sb ⟨y, Hb, Ib, rb, qb⟩
  refine thn (w1 pins sb σ Hb x y va vb _ Ib ra rb qb) ?_
  rintro _ sk ⟨_, Hk, Ik, rk, f, rfl, no, yes⟩
  cases rk
  apply wpAny_truthy_bool
  cases f
  · obtain ⟨g, eg, qg⟩ := no rfl
    cases eg
    exact ite_ff ⟨Hk, Ik, qg⟩
  apply ite_tt
  apply test_link
  refine thn (kc.run pins sk σ Hk _ Ik (yes rfl)) ?_
  rintro vc sc ⟨z, Hc, Ic, rc, qc⟩
  refine thn (w2 pins sc σ Hc y z vb vc _ Ic rb rc qc) ?_
  rintro _ sl ⟨_, Hl, Il, rl, f, rfl, no, yes⟩
  cases rl
  apply wpAny_truthy_bool
  cases f
  · obtain ⟨g, eg, qg⟩ := no rfl
    cases eg
    exact ite_ff ⟨Hl, Il, qg⟩
  apply ite_tt
  apply test_last
  refine thn (kd.run pins sl σ Hl _ Il (yes rfl)) ?_
  rintro vd sd ⟨u, Hd, Id, rd, qd⟩
  refine thn (w3 pins sd σ Hd z u vc vd _ Id rc rd qd) ?_
  rintro _ se ⟨_, He, Ie, re, g, rfl, qg⟩
  cases re
  exact wpAny_truthy_bool ⟨He, Ie, qg⟩
end
theorem ch3_step {o1 o2 o3 : COp} {a b c d : E} {σ : L2.St} {H : Hp} {Q : VK} (h : tI γ W hx (evE G me (.chain3 o1 o2 o3 a b c d)) σ H Q) :
    tCh3 (rCmpB γ o1) (rCmpB γ o2) (rCmpB γ o3) (tI γ W hx (evE G me a)) (tI γ W hx (evE G me b)) (tI γ W hx (evE G me c)) (tI γ W hx (evE G me d)) σ H Q := by
  simp only [evE] at h
  obtain ⟨ρ, env, st, hh, R, Re, A⟩ := h
  refine ⟨ρ, env, st, hh, R, Re, A.bind.imp ?_⟩
  rintro va H1 ⟨ρ1, st1, x, e1, R1, T1, -, A1⟩
  have Re1 := Re.mono R e1
  refine ⟨ρ1, env, st1, hh, R1, Re1, (A1.ext e1).bind.imp ?_⟩
  rintro vb H2 ⟨ρ2, st2, y, e2, R2, T2, -, A2⟩
  have Re2 := Re1.mono R1 e2
  have A2 := A2.ext e2
  refine ⟨ρ2, st2, x, y, _, R2, T1.mono R1 e2, T2, A2.bind.imp ?_⟩
  rintro vk H3 ⟨ρ3, st3, k, e3, R3, T3, -, A3⟩
  have Re3 := Re2.mono R2 e3
  have A3 := A3.ext e3
  split at A3
  · rename_i hb
    refine ⟨true, boolOf_rep T3 hb, (fun z => by cases z), fun _ => ⟨ρ3, env, st3, hh, R3, Re3, A3.bind.imp ?_⟩⟩
    rintro vc H4 ⟨ρ4, st4, z, e4, R4, T4, -, A4⟩
    have Re4 := Re3.mono R3 e4
    have A4 := A4.ext e4
    refine ⟨ρ4, st4, y, z, _, R4, (T2.mono R2 e3).mono R3 e4, T4, A4.bind.imp ?_⟩
    rintro vl H5 ⟨ρ5, st5, k2, e5, R5, T5, -, A5⟩
    have Re5 := Re4.mono R4 e5
    have A5 := A5.ext e5
    split at A5
    · rename_i hb5
      refine ⟨true, boolOf_rep T5 hb5, (fun z => by cases z), fun _ => ⟨ρ5, env, st5, hh, R5, Re5, A5.bind.imp ?_⟩⟩
      rintro vd H6 ⟨ρ6, st6, u, e6, R6, T6, -, A6⟩
      exact ⟨ρ6, st6, z, u, _, R6, (T4.mono R4 e5).mono R5 e6, T6, A6.ext e6⟩
    · rename_i hb5
      exact ⟨false, boolOf_rep T5 hb5, (fun _ => A5.val R5 rfl), fun z => by cases z⟩
    · exact A5.elim
  · rename_i hb
    exact ⟨false, boolOf_rep T3 hb, (fun _ => A3.val R3 rfl), fun z => by cases z⟩
  · exact A3.elim
/-! ### range with a step -/
theorem size_up (lo hi k : Int) (h : 0 < k) : Builtin.Range.rangeSize lo hi k = (((hi - lo + k - 1) / k).toNat : Int) := by
  unfold Builtin.Range.rangeSize
  rw [if_pos h]
  split
  · have e : hi - lo + k - 1 = (hi - lo - 1) + 1 * k := by omega
    rw [e, Int.add_mul_ediv_right _ _ (by omega)]
    have : 0 ≤ (hi - lo - 1) / k := Int.ediv_nonneg (by omega) (by omega)
    omega
  · have : (hi - lo + k - 1) / k < 1 := Int.ediv_lt_of_lt_mul h (by omega)
    omega
theorem small_up {lo hi k : Int} (h : 0 < k) (h2 : k < 1000000) (a : -(2 ^ 62) ≤ lo) (b : lo < 2 ^ 62) (c : -(2 ^ 62) ≤ hi) (d : hi < 2 ^ 62) : Builtin.Range.small lo hi k = true := by
  have le : (hi - lo + k - 1) / k ≤ (2 ^ 63 : Int) - 1 := by
    by_cases q : 1 ≤ hi - lo
    · have m : (hi - lo) * 1 ≤ (hi - lo) * k := Int.mul_le_mul_of_nonneg_left (by omega) (by omega)
      have : (hi - lo + k - 1) / k < (hi - lo) + 1 := Int.ediv_lt_of_lt_mul h (by rw [Int.add_mul]; omega)
      omega
    · have : (hi - lo + k - 1) / k < 1 := Int.ediv_lt_of_lt_mul h (by omega)
      omega
  unfold Builtin.Range.small
  rw [size_up _ _ _ h, if_pos h]
  simp only [Builtin.Range.rangeFitsLong, Bool.and_eq_true, Bool.or_eq_true, decide_eq_true_eq, beq_iff_eq]
  omega
theorem i_r3 {a b c : E} {tg l r t : Expr} {p pos : Pos} (g : Good γ X sc W) (hg : globB sc "range" = true) (hl : notStar l = true) (hr : notStar r = true) (ht : notStar t = true) (h : PE X l (tI γ W hx (evE G me a))) (h' : PE X r (tI γ W hx (evE G me b))) (h'' : PE X t (tI γ W hx (evE G me c))) :
    PI X tg (.Call (.Name "range" p) [l, r, t] [] pos) (tIt γ W hx (evIt G me (.rng3 a b c))) := by
  obtain ⟨q1, q2, q3⟩ := g.gl hg
  have hm := g.free "range" (by decide +kernel)
  refine ⟨fun pins s σ H R I hq => (pi_range3 q1 hm (pa_cons h (pa_cons h' (pa_cons h'' pa_nil (star_one ht _ _)) (star_one hr _ _)) (star_one hl _ _)) (by rw [star_one hl]) (by rw [star_one hr, star_one ht]; rfl)).run pins s σ H R I ?_⟩
  obtain ⟨ρ, env, st, hh, Rp, Re, A⟩ := hq
  simp only [evIt] at A
  refine ⟨ρ, env, st, hh, Rp, Re, (Aft.bindI A).imp ?_⟩
  rintro v H1 ⟨ρ1, st1, x, e1, R1, T1, -, A1⟩
  have Re1 := Re.mono Rp e1
  refine ⟨ρ1, env, st1, hh, R1, Re1, (Aft.bindI (AftI.ext A1 e1)).imp ?_⟩
  rintro w H2 ⟨ρ2, st2, y, e2, R2, T2, -, A2⟩
  have Re2 := Re1.mono R1 e2
  have A2 := AftI.ext A2 e2
  refine ⟨ρ2, env, st2, hh, R2, Re2, (Aft.bindI A2).imp ?_⟩
  rintro u H3 ⟨ρ3, st3, z, e3, R3, T3, -, A3⟩
  have A3 := AftI.ext A3 e3
  have T1' := (T1.mono R1 e2).mono R2 e3
  have T2' := T2.mono R2 e3
  split at A3
  · simp only [RepT, RepV] at T1' T2' T3
    subst T1' T2' T3
    split at A3
    · rename_i hn
      simp only [Bool.and_eq_true, decide_eq_true_eq] at hn
      obtain ⟨⟨b1, b2⟩, k0, k1⟩ := hn
      have h1 := inB_iff b1
      have h2 := inB_iff b2
      exact ⟨_, _, _, _, rfl, ⟨by omega, by omega, small_up k0 k1 h1.1 h1.2 h2.1 h2.2, size_up _ _ _ k0⟩, AftI.now A3 R3 (.rngc rfl) (fun a z => by cases z)⟩
    · exact A3.elim
  · exact A3.elim
/-! ### xs.index, xs.count -/
theorem flat_rep {ρ : List Addr} {H : Hp} {x : IV} {v : V} (f : x.flat = true) (T : RepV γ ρ H x v) : flatV v = true ∧ ∀ {y : IV} {w : V}, y.flat = true → RepV γ ρ H y w → eqV w v = pyEq y x := by
  cases x <;> simp only [IV.flat, Bool.false_eq_true] at f <;> simp only [RepV] at T <;> subst T <;> refine ⟨rfl, fun {y w} g U => ?_⟩ <;> cases y <;> simp only [IV.flat, Bool.false_eq_true] at g <;> simp only [RepV] at U <;> subst U <;> try rfl
theorem flats_rep {ρ : List Addr} {H : Hp} : ∀ {xs : List IV} {vs : List V}, xs.all IV.flat = true → RepVs γ ρ H xs vs → vs.all flatV = true
  | [], _, _, r => by simp only [RepVs] at r; subst r; rfl
  | x :: xs, _, f, r => by
    simp only [RepVs] at r
    obtain ⟨w, ws, rfl, r1, r2⟩ := r
    simp only [List.all_cons, Bool.and_eq_true] at f ⊢
    exact ⟨(flat_rep f.1 r1).1, flats_rep f.2 r2⟩
theorem findEq_is {y : IV} : ∀ {xs : List IV} {j : Nat}, findEq y xs = some j → (∃ z, xs[j]? = some z ∧ pyEq z y = true) ∧ ∀ m z, m < j → xs[m]? = some z → pyEq z y = false
  | [], _, h => by cases h
  | x :: xs, j, h => by
    simp only [findEq] at h
    split at h
    · cases h
      exact ⟨⟨x, rfl, ‹_›⟩, fun m z q => by omega⟩
    · rename_i no
      obtain ⟨i, hi, rfl⟩ := Option.map_eq_some_iff.mp h
      obtain ⟨h1, h2⟩ := findEq_is hi
      refine ⟨by simpa using h1, fun m z q e => ?_⟩
      cases m with
      | zero => simp at e; subst e; simpa using no
      | succ m => exact h2 m z (by omega) (by simpa using e)
theorem flat_get : ∀ {xs : List IV} {m : Nat} {z : IV}, xs.all IV.flat = true → xs[m]? = some z → z.flat = true := fun {xs m z} h e => List.all_eq_true.mp h z (List.mem_of_getElem? e)
theorem s_ixof {a e : E} {o x : Expr} {apos pos : Pos} (g : Good γ X sc W) (hb : plainB o = true) (hn : notStar x = true) (hline : (apos.endLine == pos.line) = true) (ha : PE X o (tI γ W hx (evE G me a))) (he : PE X x (tI γ W hx (evE G me e))) :
    PE X (.Call (.Attribute o "index" apos) [x] [] pos) (tI γ W hx (evE G me (.ixof false a e))) := by
  refine PE.imp (pe_bm PySem.F.plainAttrs_list PySem.F.slot_list_index PySem.F.type_list_index mt_index ha (pa_cons he pa_nil (star_one hn _ _)) (base_of hb _ _ _) (few_of (by simpa using hn) (by simp)) hline (star_one hn _ _) rfl) fun σ H Q h => ?_
  simp only [evE] at h
  obtain ⟨ρ, env, st, hh, R, Re, A⟩ := h
  refine ⟨ρ, env, st, hh, R, Re, A.bind.imp ?_⟩
  rintro va H1 ⟨ρ1, st1, u, e1, R1, T1, -, A1⟩
  have Re1 := Re.mono R e1
  have A1 := A1.ext e1
  split at A1
  case isFalse => exact A1.elim
  rename_i isl
  simp only [ixSeq] at isl
  obtain ⟨xs1, hxs1⟩ := Option.isSome_iff_exists.mp isl
  obtain ⟨a1, vs1, rfl, h1, -⟩ := itemsM_at R1 T1 hxs1
  refine ⟨.inl ⟨rfl, vs1, SqL.of h1⟩, ρ1, env, st1, hh, R1, Re1, A1.bind.imp ?_⟩
  rintro vb H2 ⟨ρ2, st2, y, e2, R2, T2, -, A2⟩
  have T1' := T1.mono R1 e2
  have A2 := A2.ext e2
  cases y with
  | v y =>
    simp only [ixM] at A2
    split at A2
    case isFalse => exact A2.elim
    rename_i fy
    split at A2
    case h_2 => exact A2.elim
    rename_i xs hxs
    split at A2
    case isFalse => exact A2.elim
    rename_i fxs
    split at A2
    case h_2 => exact A2.elim
    rename_i j hj
    obtain ⟨a2, vs, ea, hH, rv⟩ := itemsM_at R2 T1' hxs
    obtain ⟨⟨z, z1, z2⟩, z3⟩ := findEq_is hj
    obtain ⟨w, w1, w2⟩ := rv.get z1
    have T2 : RepV γ ρ2 H2 y vb := T2
    refine ⟨a2, vs, vb, j, w, ea, rfl, by rw [g.hK]; exact SqL.of hH, (flat_rep fy T2).1, flats_rep fxs rv, w1, by rw [(flat_rep fy T2).2 (flat_get fxs z1) w2]; exact z2, fun m z' hm e' => ?_, A2.val R2 rfl⟩
    obtain ⟨zz, k1⟩ : ∃ zz, xs[m]? = some zz := by
      have := rv.length
      have lt := (List.getElem?_eq_some_iff.mp e').1
      exact ⟨_, List.getElem?_eq_getElem (by omega)⟩
    obtain ⟨w', k2, k3⟩ := rv.get k1
    rw [k2] at e'
    cases e'
    rw [(flat_rep fy T2).2 (flat_get fxs k1) k3]
    exact z3 m zz hm k1
  | _ => exact A2.elim
/-- bools' values -/
theorem bools_vals : ∀ {bs : List Bool} {us : List Value}, Vals (bs.map V.bl) us → us = bs.map Value.bool
  | [], _, r => by cases r; rfl
  | b :: bs, _, r => by
    cases r with
    | cons h t => cases h; rw [bools_vals t]; rfl
theorem mt_cntB : MtR X "list.count" (fun x xs H Q => ∃ (p : Addr) (bs : List Bool) (b : Bool), x = .ref p ∧ xs = [.bl b] ∧ SqL X.K H p (bs.map V.bl) ∧ Q (.int (bs.count b : Nat)) H) := by
  rintro pins s σ H x xs v us Q I rx rxs ⟨p, bs, b, rfl, rfl, there, goal⟩
  cases rx
  obtain ⟨u, rfl, ru⟩ := rxs.one
  cases ru
  obtain ⟨its, rv, ⟨⟨cls, dd, data, sl⟩, n, at_, c1, c2, c3⟩, -⟩ := I.list there
  simp only at c1 c3
  subst c1 c3
  have eu := bools_vals rv
  subst eu
  have each : ∀ y ∈ (bs.map Value.bool), SeqAt.EqAt X.A.in1 s y (.bool b) (isBoolOf b y) := fun y hy => by
    obtain ⟨c, _, rfl⟩ := List.mem_map.mp hy
    exact (eqAt_V (y := .bl c) (x := .bl b) rfl rfl rfl rfl)
  have cnt : (bs.map Value.bool).countP (isBoolOf b) = bs.count b := by
    rw [List.countP_map]
    exact List.countP_congr fun c _ => by simp [isBoolOf]
  refine call_meets PySem.F.slot_list_count ⟨_, at_, rfl⟩ PySem.F.entry_list_count (PySem.F.args_list_count_2 _ _) (SeqAt.list_countAt p (bs.map Value.bool).toArray n dd sl (.bool b) (isBoolOf b)) ⟨at_, fun y hy => each y (by simpa using hy), ?_⟩
  refine ⟨.int (bs.count b : Nat), H, I.tok _, ⟨s.toks, ?_⟩, goal⟩
  show Value.int (((bs.map Value.bool).countP (isBoolOf b) : Nat) : Int) s.toks = _
  rw [cnt]
theorem s_cntB {a e : E} {o x : Expr} {apos pos : Pos} (g : Good γ X sc W) (hb : plainB o = true) (hn : notStar x = true) (hline : (apos.endLine == pos.line) = true) (ha : PE X o (tI γ W hx (evE G me a))) (he : PE X x (tI γ W hx (evE G me e))) :
    PE X (.Call (.Attribute o "count" apos) [x] [] pos) (tI γ W hx (evE G me (.cntB a e))) := by
  refine PE.imp (pe_bm PySem.F.plainAttrs_list PySem.F.slot_list_count PySem.F.type_list_count mt_cntB ha (pa_cons he pa_nil (star_one hn _ _)) (base_of hb _ _ _) (few_of (by simpa using hn) (by simp)) hline (star_one hn _ _) rfl) fun σ H Q h => ?_
  simp only [evE] at h
  obtain ⟨ρ, env, st, hh, R, Re, A⟩ := h
  refine ⟨ρ, env, st, hh, R, Re, A.bind.imp ?_⟩
  rintro va H1 ⟨ρ1, st1, u, e1, R1, T1, -, A1⟩
  have Re1 := Re.mono R e1
  have A1 := A1.ext e1
  split at A1
  case isFalse => exact A1.elim
  rename_i isl
  obtain ⟨xs1, hxs1⟩ := Option.isSome_iff_exists.mp isl
  obtain ⟨a1, vs1, rfl, h1, -⟩ := itemsM_at R1 T1 hxs1
  refine ⟨.inl ⟨rfl, vs1, SqL.of h1⟩, ρ1, env, st1, hh, R1, Re1, A1.bind.imp ?_⟩
  rintro vb H2 ⟨ρ2, st2, y, e2, R2, T2, -, A2⟩
  have T1' := T1.mono R1 e2
  have A2 := A2.ext e2
  unfold cntM at A2
  split at A2
  case h_2 => exact A2.elim
  rename_i b
  split at A2
  case h_2 => exact A2.elim
  rename_i bs hbs
  obtain ⟨xs, hxs, hbo⟩ := Option.bind_eq_some_iff.mp hbs
  obtain ⟨a2, vs, ea, hH, rv⟩ := itemsM_at R2 T1' hxs
  simp only [RepT, RepV] at T2
  subst T2
  exact ⟨a2, bs, _, ea, rfl, by rw [g.hK, ← rv.asBools hbo]; exact SqL.of hH, A2.val R2 rfl⟩
end
end MP

set_option linter.all false
set_option autoImplicit false
set_option Elab.async false
set_option maxRecDepth 100000
namespace MP
open PySem L2 PySem.Spec PyProof.Rows
section
variable {γ : Gm} {X : Cx} {sc : Sc} {W : WX} {G : Orc} {me : FnDef} {hx : HX}
/-! ### keys -/
theorem keys_rep {ρ : List Addr} {H : Hp} : ∀ {xs : List IV} {vs : List V}, xs.all IV.key1 = true → RepVs γ ρ H xs vs → ∃ kk, keysOf xs = some kk ∧ vs = kk.map kV
  | [], _, _, r => by simp only [RepVs] at r; subst r; exact ⟨[], rfl, rfl⟩
  | x :: xs, _, f, r => by
    simp only [RepVs] at r
    obtain ⟨w, ws, rfl, r1, r2⟩ := r
    simp only [List.all_cons, Bool.and_eq_true] at f
    obtain ⟨kk, e1, rfl⟩ := keys_rep f.2 r2
    have f1 := f.1
    cases x with
    | int i => simp only [RepV] at r1; subst r1; exact ⟨.inl i :: kk, by simp [keysOf, e1], rfl⟩
    | str i => simp only [RepV] at r1; subst r1; exact ⟨.inr i :: kk, by simp [keysOf, e1], rfl⟩
    | _ => simp [IV.key1] at f1
theorem keys_inj : ∀ {xs ys : List IV} {a b : List L2.Key}, keysOf xs = some a → keysOf ys = some b → IV.eqbs xs ys = decide (a = b)
  | [], [], a, b, h, q => by
    simp only [keysOf, Option.some.injEq] at h q; subst h q; rfl
  | [], y :: ys, a, b, h, q => by
    simp only [keysOf, Option.some.injEq] at h; subst h
    cases y <;> simp only [keysOf, Option.map_eq_some_iff, reduceCtorEq] at q <;> obtain ⟨c, _, rfl⟩ := q <;> simp [IV.eqbs]
  | x :: xs, [], a, b, h, q => by
    simp only [keysOf, Option.some.injEq] at q; subst q
    cases x <;> simp only [keysOf, Option.map_eq_some_iff, reduceCtorEq] at h <;> obtain ⟨c, _, rfl⟩ := h <;> simp [IV.eqbs]
  | x :: xs, y :: ys, a, b, h, q => by
    cases x <;> simp only [keysOf, Option.map_eq_some_iff, reduceCtorEq] at h <;> obtain ⟨a', h, rfl⟩ := h <;>
    cases y <;> simp only [keysOf, Option.map_eq_some_iff, reduceCtorEq] at q <;> obtain ⟨b', q, rfl⟩ := q <;>
    simp [IV.eqbs, IV.eqb, keys_inj h q] <;> rfl
theorem kLook_rep {ρ : List Addr} {H : Hp} {xs : List IV} {kk : List L2.Key} (hk : keysOf xs = some kk) : ∀ {kvs : List (IV × IV)} {ks : List (List L2.Key × V)}, RepD γ ρ H kvs ks →
    (kLook xs kvs = none ∧ valV ks kk = none) ∨ ∃ x v, kLook xs kvs = some x ∧ valV ks kk = some v ∧ RepV γ ρ H x v
  | [], _, r => by simp only [RepD] at r; subst r; exact .inl ⟨rfl, valV_nil⟩
  | (k, x) :: kvs, _, r => by
    simp only [RepD] at r
    obtain ⟨ys, k2, v, t, rfl, rfl, h1, h2, h3⟩ := r
    simp only [kLook, MP.keyIs, keys_inj h1 hk]
    by_cases q : k2 = kk
    · exact .inr ⟨x, v, by simp [q], valV_pos q, h2⟩
    · rw [valV_neg (p := (k2, v)) q]
      simp only [q, decide_false, Bool.false_eq_true, if_false]
      exact kLook_rep hk h3
theorem kRepl_rep {ρ : List Addr} {H : Hp} {xs : List IV} {kk : List L2.Key} {z : IV} {w : V} (hk : keysOf xs = some kk) (rz : RepV γ ρ H z w) : ∀ {kvs : List (IV × IV)} {ks : List (List L2.Key × V)}, RepD γ ρ H kvs ks →
    RepD γ ρ H (kvs.map fun p => if MP.keyIs xs p.1 then (p.1, z) else p) (ks.map fun kv => if kv.1 = kk then (kv.1, w) else kv)
  | [], _, r => by simp only [RepD] at r; subst r; simp [RepD]
  | (k, x) :: kvs, _, r => by
    simp only [RepD] at r
    obtain ⟨ys, k2, v, t, rfl, rfl, h1, h2, h3⟩ := r
    have ih := kRepl_rep hk rz h3
    simp only [List.map_cons, MP.keyIs, keys_inj h1 hk]
    by_cases q : k2 = kk
    · simp only [q, decide_true, if_true, RepD]
      exact ⟨ys, kk, w, _, rfl, rfl, q ▸ h1, rz, ih⟩
    · simp only [q, decide_false, Bool.false_eq_true, if_false, RepD]
      exact ⟨ys, k2, v, _, rfl, rfl, h1, h2, ih⟩
theorem kSnoc_rep {ρ : List Addr} {H : Hp} {xs : List IV} {kk : List L2.Key} {z : IV} {w : V} (hk : keysOf xs = some kk) (rz : RepV γ ρ H z w) : ∀ {kvs : List (IV × IV)} {ks : List (List L2.Key × V)}, RepD γ ρ H kvs ks →
    RepD γ ρ H (kvs ++ [(.tup xs, z)]) (ks ++ [(kk, w)])
  | [], _, r => by simp only [RepD] at r; subst r; simp only [List.nil_append, RepD]; exact ⟨xs, kk, w, [], rfl, rfl, hk, rz, rfl⟩
  | (k, x) :: kvs, _, r => by
    simp only [RepD] at r
    obtain ⟨ys, k2, v, t, rfl, rfl, h1, h2, h3⟩ := r
    simp only [List.cons_append, RepD]
    exact ⟨ys, k2, v, _, rfl, rfl, h1, h2, kSnoc_rep hk rz h3⟩
theorem kPut_rep {ρ : List Addr} {H : Hp} {xs : List IV} {kk : List L2.Key} {z : IV} {w : V} (hk : keysOf xs = some kk) (rz : RepV γ ρ H z w) {kvs : List (IV × IV)} {ks : List (List L2.Key × V)} (r : RepD γ ρ H kvs ks) :
    RepD γ ρ H (kPut xs z kvs) (putK ks kk w) := by
  unfold kPut putK
  rw [valV_any]
  rcases kLook_rep hk r with ⟨e1, e2⟩ | ⟨x, v, e1, e2, _⟩
  · rw [e1, e2]; exact kSnoc_rep hk rz r
  · rw [e1, e2]; exact kRepl_rep hk rz r
theorem RepD.length {ρ : List Addr} {H : Hp} : ∀ {kvs : List (IV × IV)} {ks : List (List L2.Key × V)}, RepD γ ρ H kvs ks → ks.length = kvs.length
  | [], _, r => by simp only [RepD] at r; subst r; rfl
  | (k, x) :: kvs, _, r => by
    simp only [RepD] at r
    obtain ⟨ys, k2, v, t, rfl, rfl, h1, h2, h3⟩ := r
    simp [RepD.length h3]
/-- a key's outcome: a tuple that is tracked -/
def AftK (γ : Gm) (ρ : List Addr) (H : Hp) (r : Res (List IV)) (Q : VK) (E : XK) : Prop := match r with
  | .ok xs st => ∀ ρ' H' p kk, Ext ρ H ρ' H' → Rep γ ρ' st H' → H' p = some (.tup (List.map kV kk)) → keysOf xs = some kk → Q (.ref p) H'
  | .exc e st => ∀ ρ' H' cls d, Ext ρ H ρ' H' → Rep γ ρ' st H' → RepX γ ρ' H' e cls d → E cls d H'
  | .bad => False
theorem AftK.imp {ρ : List Addr} {H : Hp} {r : Res (List IV)} {Q Q' : VK} {E : XK} (h : AftK γ ρ H r Q E) (q : ∀ v H', Q v H' → Q' v H') : AftK γ ρ H r Q' E := by
  cases r with
  | ok x st => exact fun ρ' H' p kk e R T o => q _ _ (h ρ' H' p kk e R T o)
  | exc x st => exact h
  | bad => exact h
theorem Aft.bindK {ρ : List Addr} {H : Hp} {r : Res (List IV)} {f : List IV → Store → Res TV} {Q : VK} {E : XK} (h : Aft γ ρ H (r.bind f) Q E) :
    AftK γ ρ H r (fun v H1 => ∃ ρ1 st1 xs p kk, v = .ref p ∧ Ext ρ H ρ1 H1 ∧ Rep γ ρ1 st1 H1 ∧ H1 p = some (.tup (List.map kV kk)) ∧ keysOf xs = some kk ∧ Aft γ ρ H (f xs st1) Q E) E := by
  cases r with
  | ok x st => exact fun ρ' H' p kk e R T o => ⟨ρ', st, x, p, kk, rfl, e, R, T, o, h⟩
  | exc x st => exact h
  | bad => exact h
def tK (γ : Gm) (W : WX) (hx : HX) (m : Env → Store → Res (List IV)) : TE := fun σ H Q => ∃ ρ env st, hx env.hx σ ∧ Rep γ ρ st H ∧ REnv γ hx ρ H env σ ∧ AftK γ ρ H (m env st) Q (fun cls d H' => W cls d σ H')
theorem s_key {es : List E} {as : List Expr} {k : Nat} {pos : Pos} (h : AllE γ X W hx G me es as) (hs : as.all notStar = true) : PE X (.Tuple as k pos) (tK γ W hx (fun env st => evK (evEs G me es env st))) := by
  refine PE.imp (pe_tup (s_args h hs)) fun σ H Q q => ?_
  obtain ⟨ρ, env, st, hh, R, Re, A⟩ := q
  simp only [evK] at A
  refine ⟨ρ, env, st, hh, R, Re, ?_⟩
  cases hm : evEs G me es env st with
  | ok xs s =>
    rw [hm] at A
    intro ρ1 H1 vs e1 R1 T1 n1 o1
    simp only [Res.bind] at A
    cases h2 : mats xs s with
    | ok ys st' =>
      rw [h2] at A
      obtain ⟨R2, r2⟩ := mats_ok R1 T1 n1 h2
      simp only [Res.bind] at A
      split at A
      · rename_i hl
        simp only [Bool.and_eq_true, decide_eq_true_eq] at hl
        obtain ⟨kk, hk, ek⟩ := keys_rep hl.2 r2
        refine ⟨by rw [r2.length, sizeLine_n]; exact hl.1, fun p hp => ?_⟩
        exact A _ _ p kk ((e1.mat o1).trans (Ext.laid hp)) (R2.laid hp) (by rw [upd_same, ek]) hk
      · exact A.elim
    | exc _ _ => exact absurd h2 mats_noexc
    | bad => rw [h2] at A; exact A.elim
  | exc _ _ => rw [hm] at A; exact A
  | bad => rw [hm] at A; exact A
theorem AftK.ext {ρ ρ1 : List Addr} {H H1 : Hp} {r : Res (List IV)} {Q : VK} {E : XK} (h : AftK γ ρ H r Q E) (e : Ext ρ H ρ1 H1) : AftK γ ρ1 H1 r Q E := by
  cases r with
  | ok x st => exact fun ρ' H' p kk e' R T => h ρ' H' p kk (e.trans e') R T
  | exc x st => exact fun ρ' H' cls d e' R T => h ρ' H' cls d (e.trans e') R T
  | bad => exact h
theorem dic_at {ρ : List Addr} {st : Store} {H : Hp} {x : TV} {v : V} {r : Nat} {kvs : List (IV × IV)} (R : Rep γ ρ st H) (T : RepT γ ρ H x v) (h : dicAt st x = some (r, kvs)) :
    ∃ a ks, v = .ref a ∧ ρ[r]? = some a ∧ H a = some (.dT ks) ∧ RepD γ ρ H kvs ks ∧ st[r]? = some (.dic kvs) := by
  unfold dicAt at h
  split at h
  · split at h
    · rename_i r' kvs' e
      simp only [Option.some.injEq, Prod.mk.injEq] at h
      obtain ⟨rfl, rfl⟩ := h
      simp only [RepT, RepV] at T
      obtain ⟨a, ha, rfl⟩ := T
      obtain ⟨b, hb, ks, h1, h2⟩ := R.ob _ _ e
      rw [ha] at hb
      cases hb
      exact ⟨a, ks, rfl, ha, h1, h2, e⟩
    · cases h
  · cases h
theorem Good.hu1 (g : Good γ X sc W) : X.A.units + 1 < cLine := by have := g.hu; omega
/-! ### {} -/
theorem s_dnew {pos : Pos} : PE X (.Dict [] [] pos) (tI γ W hx (evE G me .dnew)) := by
  refine PE.imp pe_dnewT fun σ H Q h => ?_
  obtain ⟨ρ, env, st, hh, R, Re, A⟩ := h
  simp only [evE] at A
  intro p hp
  have n : p ∉ ρ := fun z => R.tracked z hp
  have e : Ext ρ H (ρ ++ [p]) (upd H p (.dT [])) := ⟨⟨[p], rfl⟩, fun b o h _ _ => by rw [upd_ne (ne_of_none h hp)]; exact h, fun b hb => by
    rcases List.mem_append.mp hb with z | z
    · exact .inl z
    · rw [List.mem_singleton] at z; subst z; exact .inr hp, fun b q => by
      by_cases hb : b = p
      · rw [hb]; exact hp
      · rwa [upd_ne hb] at q⟩
  have R1 := R.laid (o := .dT []) hp
  have R2 : Rep γ (ρ ++ [p]) (st ++ [.dic []]) (upd H p (.dT [])) := by
    refine ⟨by simp [R.len], ?_, fun i o q => ?_, R1.tb⟩
    · rw [List.nodup_append]
      exact ⟨R.nd, by simp, fun a ha b hb => by
        rw [List.mem_singleton] at hb; subst hb
        rintro rfl; exact n ha⟩
    · by_cases hi : i < st.length
      · rw [List.getElem?_append_left hi] at q
        obtain ⟨a, h1, h2⟩ := R1.ob i o q
        exact ⟨a, by rw [List.getElem?_append_left (by rw [R.len]; exact hi)]; exact h1, h2.grow [p]⟩
      · have hi2 : i = st.length := by
          have := (List.getElem?_eq_some_iff.mp q).1
          simp at this; omega
        subst hi2
        rw [List.getElem?_append_right (Nat.le_refl _)] at q
        simp at q
        subst q
        refine ⟨p, by rw [← R.len]; simp, [], upd_same, rfl⟩
  exact A _ _ (.ref p) e R2 (by simp only [RepT, RepV]; exact ⟨p, by rw [← R.len]; simp, rfl⟩) (fun a ha => by simp [ownA] at ha)
/-! ### d[..] -/
theorem dget_of {ρ : List Addr} {st : Store} {H : Hp} {x : TV} {v : V} {p : Addr} {xs : List IV} {kk : List L2.Key} {r : Nat} {kvs : List (IV × IV)} (R : Rep γ ρ st H) (T : RepT γ ρ H x v) (hp : H p = some (.tup (List.map kV kk))) (hk : keysOf xs = some kk) (h : dicAt st x = some (r, kvs)) :
    ∃ a o, v = .ref a ∧ DGet H a (.ref p) o ∧ ((kLook xs kvs = none ∧ o = none) ∨ ∃ z w, kLook xs kvs = some z ∧ o = some w ∧ RepV γ ρ H z w) := by
  obtain ⟨a, ks, rfl, -, h1, h2, -⟩ := dic_at R T h
  refine ⟨a, valV ks kk, rfl, DGet.t h1 hp, ?_⟩
  rcases kLook_rep hk h2 with q | ⟨z, w, q1, q2, q3⟩
  · exact .inl q
  · exact .inr ⟨z, w, q1, q2, q3⟩
theorem s_dget {a : E} {ks : List E} {o : Expr} {as : List Expr} {k : Nat} {tp pos : Pos} (g : Good γ X sc W) (ha : PE X o (tI γ W hx (evE G me a))) (h : AllE γ X W hx G me ks as) (hs : as.all notStar = true) :
    PE X (.Subscript o (.Tuple as k tp) pos) (tI γ W hx (evE G me (.dget a ks))) := by
  refine PE.imp (pe_dget g.hu1 ha (s_key h hs) (fun _ _ => rfl)) fun σ H Q q => ?_
  obtain ⟨ρ, env, st, hh, R, Re, A⟩ := q
  simp only [evE] at A
  refine ⟨ρ, env, st, hh, R, Re, A.bind.imp ?_⟩
  rintro va H1 ⟨ρ1, st1, x, e1, R1, T1, -, A1⟩
  refine ⟨ρ1, env, st1, hh, R1, Re.mono R e1, (A1.ext e1).bindK.imp ?_⟩
  rintro vb H2 ⟨ρ2, st2, xs, p, kk, rfl, e2, R2, hp, hk, A2⟩
  have A2 := A2.ext e2
  have T2 := T1.mono R1 e2
  simp only [dgetM] at A2
  split at A2
  · rename_i r kvs hd
    obtain ⟨b, ov, rfl, g1, g2⟩ := dget_of R2 T2 hp hk hd
    rcases g2 with ⟨q1, rfl⟩ | ⟨z, w, q1, rfl, q3⟩
    · rw [q1] at A2; exact A2.elim
    · rw [q1] at A2
      exact ⟨b, w, rfl, g1, A2.val R2 q3⟩
  · exact A2.elim
theorem s_dgetD {a d : E} {ks : List E} {o f : Expr} {as : List Expr} {k : Nat} {tp apos pos : Pos} (g : Good γ X sc W) (hb : plainB o = true) (hn : notStar f = true) (hline : (apos.endLine == pos.line) = true) (ha : PE X o (tI γ W hx (evE G me a))) (h : AllE γ X W hx G me ks as) (hs : as.all notStar = true) (hd : PE X f (tI γ W hx (evE G me d))) :
    PE X (.Call (.Attribute o "get" apos) [.Tuple as k tp, f] [] pos) (tI γ W hx (evE G me (.dgetD a ks d))) := by
  refine PE.imp (pe_dget2 g.hu1 ha (s_key h hs) hd ⟨base_of hb _ _ _, few_of (by simp only [List.all_cons, List.all_nil, hn, Bool.and_true]; rfl) (by simp), hline, by rw [star_one rfl, star_one hn]; rfl⟩) fun σ H Q q => ?_
  obtain ⟨ρ, env, st, hh, R, Re, A⟩ := q
  simp only [evE] at A
  refine ⟨ρ, env, st, hh, R, Re, A.bind.imp ?_⟩
  rintro va H1 ⟨ρ1, st1, x, e1, R1, T1, -, A1⟩
  have A1 := A1.ext e1
  split at A1
  case isFalse => exact A1.elim
  rename_i isd
  simp only [isDic] at isd
  obtain ⟨⟨r, kvs⟩, hd1⟩ := Option.isSome_iff_exists.mp isd
  obtain ⟨b, ks1, rfl, -, h1, -, -⟩ := dic_at R1 T1 hd1
  have Re1 := Re.mono R e1
  refine ⟨b, rfl, .inr ⟨ks1, .inl h1⟩, ρ1, env, st1, hh, R1, Re1, A1.bindK.imp ?_⟩
  rintro vb H2 ⟨ρ2, st2, xs, p, kk, rfl, e2, R2, hp, hk, A2⟩
  have Re2 := Re1.mono R1 e2
  refine ⟨ρ2, env, st2, hh, R2, Re2, (A2.ext e2).bind.imp ?_⟩
  rintro vc H3 ⟨ρ3, st3, y, e3, R3, T3, -, A3⟩
  have A3 := A3.ext e3
  have hp3 := e3.keep _ _ hp (R2.ntup hp) (fun _ z => by cases z)
  cases hd3 : dicAt st3 x with
  | none => simp only [dgetDM, hd3] at A3; exact A3.elim
  | some q =>
    obtain ⟨r', kvs'⟩ := q
    obtain ⟨b', ov, eb, g1, g2⟩ := dget_of R3 ((T1.mono R1 e2).mono R2 e3) hp3 hk hd3
    cases eb
    cases y with
    | v dv =>
      simp only [dgetDM, hd3] at A3
      refine ⟨ov, g1, A3.val R3 ?_⟩
      rcases g2 with ⟨q1, rfl⟩ | ⟨z, w, q1, rfl, q3⟩
      · rw [q1]; exact T3
      · rw [q1]; exact q3
    | _ => simp only [dgetDM, hd3] at A3; exact A3.elim
theorem s_din {a : E} {ks : List E} {r : Expr} {as : List Expr} {k : Nat} {tp : Pos} (g : Good γ X sc W) (ha : PE X r (tI γ W hx (evE G me a))) (h : AllE γ X W hx G me ks as) (hs : as.all notStar = true) :
    PC X .In (.Tuple as k tp) r (tI γ W hx (evE G me (.din true ks a))) := by
  refine ⟨fun pins s σ H Q I q => (pc_din g.hu1 (s_key h hs) ha).run pins s σ H Q I ?_⟩
  obtain ⟨ρ, env, st, hh, R, Re, A⟩ := q
  simp only [evE] at A
  refine ⟨ρ, env, st, hh, R, Re, A.bindK.imp ?_⟩
  rintro vb H2 ⟨ρ2, st2, xs, p, kk, rfl, e2, R2, hp, hk, A2⟩
  have Re2 := Re.mono R e2
  refine ⟨ρ2, env, st2, hh, R2, Re2, (A2.ext e2).bind.imp ?_⟩
  rintro vc H3 ⟨ρ3, st3, y, e3, R3, T3, -, A3⟩
  have A3 := A3.ext e3
  have hp3 := e3.keep _ _ hp (R2.ntup hp) (fun _ z => by cases z)
  simp only [dinM] at A3
  split at A3
  · rename_i r' kvs' hd3
    obtain ⟨b', ov, rfl, g1, g2⟩ := dget_of R3 T3 hp3 hk hd3
    refine ⟨b', ov, rfl, g1, A3.val R3 ?_⟩
    rcases g2 with ⟨q1, rfl⟩ | ⟨z, w, q1, rfl, q3⟩ <;> rw [q1] <;> rfl
  · exact A3.elim
theorem s_dnin {a : E} {ks : List E} {r : Expr} {as : List Expr} {k : Nat} {tp : Pos} (g : Good γ X sc W) (ha : PE X r (tI γ W hx (evE G me a))) (h : AllE γ X W hx G me ks as) (hs : as.all notStar = true) :
    PC X .NotIn (.Tuple as k tp) r (tI γ W hx (evE G me (.din false ks a))) := by
  refine ⟨fun pins s σ H Q I q => (pc_dnotin g.hu1 (s_key h hs) ha).run pins s σ H Q I ?_⟩
  obtain ⟨ρ, env, st, hh, R, Re, A⟩ := q
  simp only [evE] at A
  refine ⟨ρ, env, st, hh, R, Re, A.bindK.imp ?_⟩
  rintro vb H2 ⟨ρ2, st2, xs, p, kk, rfl, e2, R2, hp, hk, A2⟩
  have Re2 := Re.mono R e2
  refine ⟨ρ2, env, st2, hh, R2, Re2, (A2.ext e2).bind.imp ?_⟩
  rintro vc H3 ⟨ρ3, st3, y, e3, R3, T3, -, A3⟩
  have A3 := A3.ext e3
  have hp3 := e3.keep _ _ hp (R2.ntup hp) (fun _ z => by cases z)
  simp only [dinM] at A3
  split at A3
  · rename_i r' kvs' hd3
    obtain ⟨b', ov, rfl, g1, g2⟩ := dget_of R3 T3 hp3 hk hd3
    refine ⟨b', ov, rfl, g1, A3.val R3 ?_⟩
    rcases g2 with ⟨q1, rfl⟩ | ⟨z, w, q1, rfl, q3⟩ <;> rw [q1] <;> rfl
  · exact A3.elim
/-! ### sorted(list(d)) -/
theorem pairs_keys {ρ : List Addr} {H : Hp} : ∀ {kvs : List (IV × IV)} {ks : List (List L2.Key × V)} {ps : List (Int × Int)} {bs : List Addr}, pairsOf kvs = some ps → RepD γ ρ H kvs ks → IsKeys H ks bs →
    Paired (fun (p : Int × Int) (b : Addr) => H b = some (.tup [.int p.1, .int p.2])) ps bs
  | [], _, ps, bs, hp, r, q => by
    simp only [RepD] at r; subst r
    simp only [pairsOf, Option.some.injEq] at hp; subst hp
    cases q
    exact .nil
  | (k, x) :: kvs, _, ps, bs, hp, r, q => by
    simp only [RepD] at r
    obtain ⟨ys, k2, v, t, rfl, rfl, h1, h2, h3⟩ := r
    cases q with
    | cons q1 q2 =>
      rcases ys with _ | ⟨y1, _ | ⟨y2, _ | ⟨y3, ys⟩⟩⟩
      · simp [pairsOf] at hp
      · cases y1 <;> simp [pairsOf] at hp
      · cases y1 <;> first | (simp [pairsOf] at hp; done) | skip
        cases y2 <;> first | (simp [pairsOf] at hp; done) | skip
        simp only [pairsOf, Option.map_eq_some_iff] at hp
        obtain ⟨ps', e, rfl⟩ := hp
        simp only [keysOf, Option.map_some, Option.some.injEq] at h1
        subst h1
        exact .cons q1 (pairs_keys e h3 q2)
      · cases y1 <;> simp [pairsOf] at hp
def keyV (H : Hp) : V → Int × Int
  | .ref t => match H t with
    | some (.tup [.int i, .int j]) => (i, j)
    | _ => (0, 0)
  | _ => (0, 0)
theorem pairs_map {H : Hp} : ∀ {ps : List (Int × Int)} {bs : List Addr}, Paired (fun (p : Int × Int) (b : Addr) => H b = some (.tup [.int p.1, .int p.2])) ps bs → (bs.map V.ref).map (keyV H) = ps
  | _, _, .nil => rfl
  | p :: ps, b :: bs, .cons h t => by
    simp only [List.map_cons, keyV, h, pairs_map t]
theorem pairs_each {H : Hp} : ∀ {ps : List (Int × Int)} {bs : List Addr}, Paired (fun (p : Int × Int) (b : Addr) => H b = some (.tup [.int p.1, .int p.2])) ps bs → ∀ x ∈ bs.map V.ref, ∃ t, x = V.ref t ∧ H t = some (.tup [.int (keyV H x).1, .int (keyV H x).2])
  | _, _, .nil, x, hx => by simp at hx
  | p :: ps, b :: bs, .cons h t, x, hx => by
    rw [List.map_cons] at hx
    rcases List.mem_cons.mp hx with rfl | hx
    · exact ⟨b, rfl, by simp only [keyV, h]⟩
    · exact pairs_each t x hx
theorem pairs_rep {ρ : List Addr} {H H' : Hp} : ∀ {ys : List V}, (∀ x ∈ ys, ∃ t, x = V.ref t ∧ H' t = some (.tup [.int (keyV H x).1, .int (keyV H x).2])) → RepVs γ ρ H' ((ys.map (keyV H)).map pairIV) ys
  | [], _ => by simp [RepVs]
  | y :: ys, h => by
    simp only [List.map_cons, RepVs]
    obtain ⟨t, e, ht⟩ := h y List.mem_cons_self
    refine ⟨y, ys, rfl, ?_, pairs_rep fun x hx => h x (List.mem_cons_of_mem _ hx)⟩
    simp only [pairIV, RepV]
    exact ⟨t, _, e, TupAt.of ht, by simp [RepVs, RepV]⟩
theorem lex_le {p q : Int × Int} : SrtO.lexB q p = false ↔ pairLe p q = true := by
  rw [SrtO.lexB_no]
  simp only [pairLe, Bool.or_eq_true, Bool.and_eq_true, decide_eq_true_eq]
  omega
theorem pair_sorted {l m : List (Int × Int)} (h : SrtO.Srtd SrtO.lexB l) (p : l.Perm m) : l = m.mergeSort pairLe := by
  refine List.Perm.eq_of_pairwise (le := fun a b => pairLe a b = true) (fun a b _ _ h1 h2 => ?_) (List.Pairwise.imp (fun {a b} h => lex_le.mp h) h) (List.pairwise_mergeSort (fun a b c h1 h2 => ?_) (fun a b => ?_) m) (p.trans (List.mergeSort_perm m pairLe).symm)
  · simp only [pairLe, Bool.or_eq_true, Bool.and_eq_true, decide_eq_true_eq] at h1 h2
    exact Prod.ext (by omega) (by omega)
  · simp only [pairLe, Bool.or_eq_true, Bool.and_eq_true, decide_eq_true_eq] at h1 h2 ⊢
    omega
  · simp only [pairLe, Bool.or_eq_true, Bool.and_eq_true, decide_eq_true_eq]
    omega
theorem s_dsort {a : E} {o : Expr} {p p1 pos pos1 : Pos} (g : Good γ X sc W) (hcm : sc.calm = true) (hg : globB sc "sorted" = true) (hg1 : globB sc "list" = true) (hn : notStar o = true) (ha : PE X o (tI γ W hx (evE G me a))) :
    PE X (.Call (.Name "sorted" p) [.Call (.Name "list" p1) [o] [] pos1] [] pos) (tI γ W hx (evE G me (.dsort a))) := by
  obtain ⟨q1, q2, q3⟩ := g.gl hg
  obtain ⟨r1, r2, r3⟩ := g.gl hg1
  have inner := pe_callTy (p := p1) (pos := pos1) (call_list_dT (g.calm hcm)) r1 (g.free "list" (by decide +kernel)) (by decide +kernel) (pa_cons ha pa_nil (star_one hn _ _)) r3 r2 (star_one hn _ _) rfl
  refine PE.imp (pe_callB (p := p) (pos := pos) cr_sortedPO q1 (g.free "sorted" (by decide +kernel)) (by decide +kernel) (pa_cons inner pa_nil (star_one rfl _ _)) q3 q2 (star_one rfl _ _) rfl) fun σ H Q q => ?_
  obtain ⟨ρ, env, st, hh, R, Re, A⟩ := q
  simp only [evE] at A
  refine ⟨ρ, env, st, hh, R, Re, A.bind.imp ?_⟩
  rintro va H1 ⟨ρ1, st1, x, e1, R1, T1, -, A1⟩
  have A1 := A1.ext e1
  simp only [dsortM] at A1
  cases hd : dicAt st1 x with
  | none => simp only [hd] at A1; exact A1.elim
  | some w =>
    obtain ⟨r, kvs⟩ := w
    simp only [hd] at A1
    cases hps : pairsOf kvs with
    | none => simp only [hps] at A1; exact A1.elim
    | some ps =>
      simp only [hps] at A1
      obtain ⟨b, ks, rfl, -, h1, h2, -⟩ := dic_at R1 T1 hd
      refine ⟨b, ks, rfl, .inl h1, fun pl bs hpl hk => ?_⟩
      have pk := pairs_keys hps h2 hk
      have e2 : Ext ρ1 H1 ρ1 (upd H1 pl (.lst (bs.map V.ref))) := Ext.laid hpl
      have R2 := R1.laid (o := .lst (bs.map V.ref)) hpl
      have off : ∀ {t : Addr} {u : HO}, H1 t = some u → upd H1 pl (.lst (bs.map V.ref)) t = some u := fun {t u} z => by rw [upd_ne (ne_of_none z hpl)]; exact z
      have each : ∀ x ∈ bs.map V.ref, ∃ t, x = V.ref t ∧ upd H1 pl (.lst (bs.map V.ref)) t = some (.tup [.int (keyV H1 x).1, .int (keyV H1 x).2]) := fun x hx => by
        obtain ⟨t, z1, z2⟩ := pairs_each pk x hx
        exact ⟨t, z1, off z2⟩
      refine ⟨pl, bs.map V.ref, keyV H1, rfl, SqL.of upd_same, each, fun ys p2 hs hst hp2 => ?_⟩
      have es : ys.map (keyV H1) = ps.mergeSort pairLe := by
        refine pair_sorted (SrtO.srtd_map hs) ?_
        have := hst.perm.map (keyV H1)
        rwa [pairs_map pk] at this
      rw [← es] at A1
      exact (A1.ext e2).newL R2 (pairs_rep fun x hx => each x (hst.perm.mem_iff.mp hx)) p2 hp2
/-! ### an index of a constant's texts -/
theorem strs_rep {ρ : List Addr} {H : Hp} : ∀ {xs : List IV} {vs : List V} {ys : List Str}, asStrs xs = some ys → RepVs γ ρ H xs vs → vs = ys.map V.str
  | [], _, _, e, r => by simp only [asStrs, Option.some.injEq] at e; subst e; simp only [RepVs] at r; rw [r]; rfl
  | x :: xs, _, _, e, r => by
    simp only [RepVs] at r
    obtain ⟨w, ws, rfl, r1, r2⟩ := r
    cases x <;> simp only [asStrs, Option.map_eq_some_iff, reduceCtorEq] at e
    obtain ⟨zs, e, rfl⟩ := e
    simp only [RepV] at r1
    rw [strs_rep e r2, r1]; rfl
theorem row_rep {z : IV} {v : V} {ys : List Str} (h : rowN z = some ys) (r : RepV γ [] (fun _ => none) z v) : ∃ a, v = .ref a ∧ (∃ o, γ.K.lookup a = some o ∧ o.cls = .type "tuple" ∧ o.dict = none) ∧ ∀ H, SqT γ.K H a (ys.map V.str) := by
  cases z <;> simp only [rowN, reduceCtorEq] at h
  simp only [RepV] at r
  obtain ⟨a, vs, rfl, h1, h2⟩ := r
  have ev := strs_rep h h2
  subst ev
  refine ⟨a, rfl, ?_, fun H => (TupAt.const (H := H) h1).sq⟩
  rcases h1.sq with (z | ⟨_, z⟩) | ⟨o, its, n, k1, k2, _⟩
  · cases z
  · cases z
  · rcases h1.or with ⟨_, z⟩ | ⟨o', k3, k4⟩
    · cases z
    · rw [k1] at k3; cases k3
      exact ⟨o, k1, k2, k4⟩
theorem find_is {ys : List Str} {z : Str} {j : Nat} (h : ys.findIdx? (fun y => decide (y = z)) = some j) : ys[j]? = some z ∧ ∀ m, m < j → ys[m]? ≠ some z := by
  rw [List.findIdx?_eq_some_iff_getElem] at h
  obtain ⟨hl, h1, h2⟩ := h
  refine ⟨by rw [List.getElem?_eq_getElem hl, of_decide_eq_true h1], fun m hm q => ?_⟩
  have := h2 m hm
  simp only [decide_eq_true_eq] at this
  exact this (List.getElem?_eq_some_iff.mp q).2
theorem ix_end {ρ : List Addr} {st : Store} {H : Hp} {x : TV} {w : V} {ys : List Str} {a : Addr} {Q : VK} {E : XK} (hK : X.K = γ.K) (R : Rep γ ρ st H) (T : RepT γ ρ H x w) (hs : ∀ H, SqT γ.K H a (ys.map V.str)) (A : Aft γ ρ H (strIx ys x st) Q E) :
    ∃ p, ∃ zs : List Str, ∃ z j, V.ref a = .ref p ∧ [w] = [.str z] ∧ SqT X.K H p (zs.map V.str) ∧ zs[j]? = some z ∧ (∀ m, m < j → zs[m]? ≠ some z) ∧ Q (.int (j : Nat)) H := by
  unfold strIx at A
  split at A
  · simp only [RepT, RepV] at T
    subst T
    split at A
    · rename_i j hj
      obtain ⟨h1, h2⟩ := find_is hj
      exact ⟨a, ys, _, j, rfl, rfl, hK ▸ hs H, h1, h2, A.val R rfl⟩
    · exact A.elim
  · exact A.elim
theorem s_ixN {nm : Str} {y : IV} {e : E} {x : Expr} {p apos pos : Pos} (g : Good γ X sc W) (hg : globB sc nm = true) (hn : notStar x = true) (hline : (apos.endLine == pos.line) = true) (hc : GcOk γ X.mg nm y) (he : PE X x (tI γ W hx (evE G me e))) :
    PE X (.Call (.Attribute (.Name nm p) "index" apos) [x] [] pos) (tI γ W hx (evE G me (.ixN nm y e))) := by
  obtain ⟨u, v, h1, h2, h3⟩ := hc
  obtain ⟨q1, q2, q3⟩ := g.gl hg
  refine PE.imp (pe_bm PySem.F.plainAttrs_tuple PySem.F.slot_tuple_index PySem.F.type_tuple_index mt_tup_index (pe_glob q1 h1 h2 q2) (pa_cons he pa_nil (star_one hn _ _)) rfl (few_of (by simpa using hn) (by simp)) hline (star_one hn _ _) rfl) fun σ H Q h => ?_
  obtain ⟨ρ, env, st, hh, R, Re, A⟩ := h
  simp only [evE] at A
  split at A
  · rename_i ys hy
    obtain ⟨a, rfl, t1, t2⟩ := row_rep hy h3
    refine ⟨.inr (.inl ⟨rfl, by rw [g.hK]; exact t1⟩), ρ, env, st, hh, R, Re, A.bind.imp ?_⟩
    rintro w H1 ⟨ρ1, st1, x, e1, R1, T1, -, A1⟩
    exact ix_end g.hK R1 T1 t2 (A1.ext e1)
  · exact A.elim
theorem s_ixT {nm : Str} {y : IV} {b e : E} {i x : Expr} {p p2 apos pos : Pos} (g : Good γ X sc W) (hg : globB sc nm = true) (hi : notSlice i = true) (hn : notStar x = true) (hline : (apos.endLine == pos.line) = true) (hc : GcOk γ X.mg nm y) (hb : PE X i (tI γ W hx (evE G me b))) (he : PE X x (tI γ W hx (evE G me e))) :
    PE X (.Call (.Attribute (.Subscript (.Name nm p) i p2) "index" apos) [x] [] pos) (tI γ W hx (evE G me (.ixT nm y b e))) := by
  obtain ⟨u, v, h1, h2, h3⟩ := hc
  obtain ⟨q1, q2, q3⟩ := g.gl hg
  refine PE.imp (pe_bm PySem.F.plainAttrs_tuple PySem.F.slot_tuple_index PySem.F.type_tuple_index mt_tup_index (pe_ix ix_tup (pe_glob q1 h1 h2 q2) hb (fun o i' => by cases i <;> first | rfl | simp [notSlice] at hi)) (pa_cons he pa_nil (star_one hn _ _)) rfl (few_of (by simpa using hn) (by simp)) hline (star_one hn _ _) rfl) fun σ H Q h => ?_
  obtain ⟨ρ, env, st, hh, R, Re, A⟩ := h
  simp only [evE] at A
  refine ⟨ρ, env, st, hh, R, Re, A.bind.imp ?_⟩
  rintro w H1 ⟨ρ1, st1, j, e1, R1, T1, -, A1⟩
  replace A1 := A1.ext e1
  cases hy : rowT y j with
  | none => rw [hy] at A1; exact A1.elim
  | some ys =>
    rw [hy] at A1
    have A9 : Aft γ ρ1 H1 ((evE G me e env st1).bind fun k st => strIx ys k st) Q (fun cls d H' => W cls d σ H') := A1
    clear A1
    unfold rowT at hy
    split at hy
    · rename_i xs i'
      simp only [RepT, RepV] at T1 h3
      subst T1
      obtain ⟨a, vs, rfl, k1, k2⟩ := h3
      split at hy
      · rename_i k hk
        split at hy
        · rename_i z hz
          obtain ⟨wv, hw, rw_⟩ := k2.get hz
          have hat : atI vs i' = some wv := by
            unfold atI
            rw [k2.length, ← atN_ixN, hk]
            exact hw
          obtain ⟨a2, rfl, t1, t2⟩ := row_rep hy rw_
          refine ⟨a, vs, i', _, rfl, rfl, by rw [g.hK]; exact (TupAt.const (H := H1) k1).sq, hat, .inr (.inl ⟨rfl, by rw [g.hK]; exact t1⟩), ρ1, env, st1, hh, R1, Re.mono R e1, A9.bind.imp ?_⟩
          rintro w2 H2 ⟨ρ2, st2, x2, e2, R2, T2, -, A2⟩
          exact ix_end g.hK R2 T2 t2 (A2.ext e2)
        · cases hy
      · cases hy
    · cases hy
end
end MP

set_option linter.all false
set_option autoImplicit false
set_option Elab.async false
set_option maxRecDepth 100000
namespace MP
open PySem L2 PySem.Spec PyProof.Rows
section
variable {γ : Gm} {X : Cx} {sc : Sc} {W : WX} {G : Orc} {me : FnDef} {hx : HX}
/-! ### keys of any text -/
theorem keyT_all : ∀ {xs : List IV}, keyT xs = true → xs.all IV.key1 = true := by
  intro xs h
  unfold keyT at h
  split at h <;> first | rfl | cases h
theorem key1_rep {ρ : List Addr} {H : Hp} {k : IV} {w : V} (h : k.key1 = true) (r : RepV γ ρ H k w) : ∃ kk, key1Of k = some kk ∧ w = kV kk := by
  cases k <;> simp only [IV.key1, Bool.false_eq_true] at h <;> simp only [RepV] at r <;> subst r
  · exact ⟨.inl _, rfl, rfl⟩
  · exact ⟨.inr _, rfl, rfl⟩
theorem key1_inj {k j : IV} {a b : L2.Key} (h : key1Of k = some a) (q : key1Of j = some b) : k.eqb j = decide (a = b) := by
  cases k <;> simp only [key1Of, Option.some.injEq, reduceCtorEq] at h <;> subst h <;> cases j <;> simp only [key1Of, Option.some.injEq, reduceCtorEq] at q <;> subst q <;> simp [IV.eqb] <;> rfl
theorem kLook1_rep {ρ : List Addr} {H : Hp} {k : IV} {kk : L2.Key} (hk : key1Of k = some kk) : ∀ {kvs : List (IV × IV)} {ks : List (L2.Key × V)}, RepK γ ρ H kvs ks →
    (kLook1 k kvs = none ∧ valV ks kk = none) ∨ ∃ x v, kLook1 k kvs = some x ∧ valV ks kk = some v ∧ RepV γ ρ H x v
  | [], _, r => by simp only [RepK] at r; subst r; exact .inl ⟨rfl, valV_nil⟩
  | (j, x) :: kvs, _, r => by
    simp only [RepK] at r
    obtain ⟨k2, v, t, rfl, h1, h2, h3⟩ := r
    simp only [kLook1, key1_inj h1 hk]
    by_cases q : k2 = kk
    · exact .inr ⟨x, v, by simp [q], valV_pos q, h2⟩
    · rw [valV_neg (p := (k2, v)) q]
      simp only [q, decide_false, Bool.false_eq_true, if_false]
      exact kLook1_rep hk h3
theorem kPut1_rep {ρ : List Addr} {H : Hp} {k : IV} {kk : L2.Key} {z : IV} {w : V} (hk : key1Of k = some kk) (rz : RepV γ ρ H z w) {kvs : List (IV × IV)} {ks : List (L2.Key × V)} (r : RepK γ ρ H kvs ks) :
    RepK γ ρ H (kPut1 k z kvs) (putK ks kk w) := by
  have repl : ∀ {kvs : List (IV × IV)} {ks : List (L2.Key × V)}, RepK γ ρ H kvs ks → RepK γ ρ H (kvs.map fun p => if p.1.eqb k then (p.1, z) else p) (ks.map fun kv => if kv.1 = kk then (kv.1, w) else kv) := by
    intro kvs
    induction kvs with
    | nil => intro ks r; simp only [RepK] at r; subst r; simp [RepK]
    | cons p kvs ih =>
      intro ks r
      obtain ⟨j, x⟩ := p
      simp only [RepK] at r
      obtain ⟨k2, v, t, rfl, h1, h2, h3⟩ := r
      have z' := ih h3
      simp only [List.map_cons, key1_inj h1 hk]
      by_cases q : k2 = kk
      · simp only [q, decide_true, if_true, RepK]
        exact ⟨kk, w, _, rfl, q ▸ h1, rz, z'⟩
      · simp only [q, decide_false, Bool.false_eq_true, if_false, RepK]
        exact ⟨k2, v, _, rfl, h1, h2, z'⟩
  have snoc : ∀ {kvs : List (IV × IV)} {ks : List (L2.Key × V)}, RepK γ ρ H kvs ks → RepK γ ρ H (kvs ++ [(k, z)]) (ks ++ [(kk, w)]) := by
    intro kvs
    induction kvs with
    | nil => intro ks r; simp only [RepK] at r; subst r; simp only [List.nil_append, RepK]; exact ⟨kk, w, [], rfl, hk, rz, rfl⟩
    | cons p kvs ih =>
      intro ks r
      obtain ⟨j, x⟩ := p
      simp only [RepK] at r
      obtain ⟨k2, v, t, rfl, h1, h2, h3⟩ := r
      simp only [List.cons_append, RepK]
      exact ⟨k2, v, _, rfl, h1, h2, ih h3⟩
  unfold kPut1 putK
  rw [valV_any]
  rcases kLook1_rep hk r with ⟨e1, e2⟩ | ⟨x, v, e1, e2, _⟩
  · rw [e1, e2]; exact snoc r
  · rw [e1, e2]; exact repl r
theorem RepK.length {ρ : List Addr} {H : Hp} : ∀ {kvs : List (IV × IV)} {ks : List (L2.Key × V)}, RepK γ ρ H kvs ks → ks.length = kvs.length
  | [], _, r => by simp only [RepK] at r; subst r; rfl
  | (k, x) :: kvs, _, r => by
    simp only [RepK] at r
    obtain ⟨k2, v, t, rfl, h1, h2, h3⟩ := r
    simp [RepK.length h3]
theorem keyT_at {ρ : List Addr} {H : Hp} {xs : List IV} {w : V} (h : keyT xs = true) (r : RepV γ ρ H (.tup xs) w) : ∃ p kk, w = .ref p ∧ H p = some (.tup (List.map kV kk)) ∧ keysOf xs = some kk := by
  simp only [RepV] at r
  obtain ⟨a, vs, rfl, h1, h2⟩ := r
  obtain ⟨kk, e1, rfl⟩ := keys_rep (keyT_all h) h2
  exact ⟨a, kk, rfl, h1.ky h, e1⟩
theorem dk_at {ρ : List Addr} {st : Store} {H : Hp} {r : Nat} {v : V} {kvs : List (IV × IV)} (R : Rep γ ρ st H) (T : RepT γ ρ H (.v (.ref r)) v) (h : st[r]? = some (.dk kvs)) :
    ∃ a ks, v = .ref a ∧ ρ[r]? = some a ∧ H a = some (.dK ks) ∧ RepK γ ρ H kvs ks := by
  simp only [RepT, RepV] at T
  obtain ⟨a, ha, rfl⟩ := T
  obtain ⟨b, hb, ks, h1, h2⟩ := R.ob _ _ h
  rw [ha] at hb
  cases hb
  exact ⟨a, ks, rfl, ha, h1, h2⟩
/-- what is read under a key -/
theorem kget_of {ρ : List Addr} {st : Store} {H : Hp} {x : TV} {v w : V} {k : IV} {o : Option IV} (R : Rep γ ρ st H) (T : RepT γ ρ H x v) (rk : RepV γ ρ H k w) (h : kgetO x k st = some o) :
    ∃ a vo, v = .ref a ∧ DGet H a w vo ∧ ((o = none ∧ vo = none) ∨ ∃ z u, o = some z ∧ vo = some u ∧ RepV γ ρ H z u) := by
  unfold kgetO at h
  split at h
  · rename_i r
    split at h
    · rename_i kvs e
      split at h
      · rename_i xs
        split at h
        · rename_i hk
          cases h
          obtain ⟨p, kk, rfl, hp, ek⟩ := keyT_at hk rk
          have hd : dicAt st (.v (.ref r)) = some (r, kvs) := by simp [dicAt, e]
          exact dget_of R T hp ek hd
        · cases h
      · cases h
    · rename_i kvs e
      split at h
      · rename_i hk
        cases h
        obtain ⟨kk, ek, rfl⟩ := key1_rep hk rk
        obtain ⟨a, ks, rfl, -, h1, h2⟩ := dk_at R T e
        refine ⟨a, valV ks kk, rfl, DGet.k h1, ?_⟩
        rcases kLook1_rep ek h2 with q | ⟨z, w, q1, q2, q3⟩
        · exact .inl q
        · exact .inr ⟨z, w, q1, q2, q3⟩
      · cases h
    · cases h
  · cases h
theorem asKey_bind {r : Res TV} {β : Type} {f : IV → Store → Res β} : (asKey r).bind f = r.bind fun x st => match x with | .v k => f k st | _ => .bad := by
  cases r with
  | ok x st => cases x <;> rfl
  | exc _ _ => rfl
  | bad => rfl
theorem isDict_at {ρ : List Addr} {st : Store} {H : Hp} {x : TV} {v : V} (R : Rep γ ρ st H) (T : RepT γ ρ H x v) (h : isDict st x = true) : ∃ a, v = .ref a ∧ IsD H a := by
  unfold isDict at h
  split at h
  · rename_i r
    split at h
    · rename_i kvs e
      obtain ⟨b, ks1, rfl, -, h1, -, -⟩ := dic_at (x := .v (.ref r)) R T (r := r) (kvs := kvs) (by simp [dicAt, e])
      exact ⟨b, rfl, .inr ⟨ks1, .inl h1⟩⟩
    · rename_i kvs e
      obtain ⟨a, ks, rfl, -, h1, h2⟩ := dk_at R T e
      exact ⟨a, rfl, .inl ⟨ks, .inl h1⟩⟩
    · cases h
  · cases h
theorem s_kget {a k : E} {o i : Expr} {pos : Pos} (g : Good γ X sc W) (hn : notSlice i = true) (ha : PE X o (tI γ W hx (evE G me a))) (hk : PE X i (tI γ W hx (evE G me k))) : PE X (.Subscript o i pos) (tI γ W hx (evE G me (.kget a k))) := by
  refine PE.imp (pe_dget g.hu1 ha hk (fun o' i' => by cases i <;> first | rfl | simp [notSlice] at hn)) fun σ H Q q => ?_
  obtain ⟨ρ, env, st, hh, R, Re, A⟩ := q
  simp only [evE, asKey_bind] at A
  refine ⟨ρ, env, st, hh, R, Re, A.bind.imp ?_⟩
  rintro va H1 ⟨ρ1, st1, x, e1, R1, T1, -, A1⟩
  refine ⟨ρ1, env, st1, hh, R1, Re.mono R e1, (A1.ext e1).bind.imp ?_⟩
  rintro vb H2 ⟨ρ2, st2, y, e2, R2, T2, -, A2⟩
  have A2 := A2.ext e2
  cases y with
  | v kx =>
    simp only [kgetM] at A2
    cases ho : kgetO x kx st2 with
    | none => rw [ho] at A2; exact A2.elim
    | some o =>
      rw [ho] at A2
      obtain ⟨b, vo, rfl, g1, g2⟩ := kget_of R2 (T1.mono R1 e2) T2 ho
      rcases g2 with ⟨rfl, rfl⟩ | ⟨z, u, rfl, rfl, q3⟩
      · exact A2.elim
      · exact ⟨b, u, rfl, g1, A2.val R2 q3⟩
  | _ => exact A2.elim
theorem s_kgetD {a k d : E} {o x f : Expr} {apos pos : Pos} (g : Good γ X sc W) (hb : plainB o = true) (hx' : notStar x = true) (hn : notStar f = true) (hline : (apos.endLine == pos.line) = true) (ha : PE X o (tI γ W hx (evE G me a))) (hk : PE X x (tI γ W hx (evE G me k))) (hd : PE X f (tI γ W hx (evE G me d))) :
    PE X (.Call (.Attribute o "get" apos) [x, f] [] pos) (tI γ W hx (evE G me (.kgetD a k d))) := by
  refine PE.imp (pe_dget2 g.hu1 ha hk hd ⟨base_of hb _ _ _, few_of (by simp only [List.all_cons, List.all_nil, hx', hn, Bool.and_true]) (by simp), hline, by rw [star_one hx', star_one hn]; rfl⟩) fun σ H Q q => ?_
  obtain ⟨ρ, env, st, hh, R, Re, A⟩ := q
  simp only [evE, asKey_bind] at A
  refine ⟨ρ, env, st, hh, R, Re, A.bind.imp ?_⟩
  rintro va H1 ⟨ρ1, st1, x, e1, R1, T1, -, A1⟩
  have A1 := A1.ext e1
  split at A1
  case isFalse => exact A1.elim
  rename_i isd
  obtain ⟨b, rfl, hD⟩ := isDict_at R1 T1 isd
  have Re1 := Re.mono R e1
  refine ⟨b, rfl, hD, ρ1, env, st1, hh, R1, Re1, A1.bind.imp ?_⟩
  rintro vb H2 ⟨ρ2, st2, y, e2, R2, T2, -, A2⟩
  have A2 := A2.ext e2
  cases y with
  | v kx =>
    refine ⟨ρ2, env, st2, hh, R2, Re1.mono R1 e2, A2.bind.imp ?_⟩
    rintro vc H3 ⟨ρ3, st3, y, e3, R3, T3, -, A3⟩
    have A3 := A3.ext e3
    simp only [kgetDM] at A3
    cases ho : kgetO x kx st3 with
    | none => rw [ho] at A3; exact A3.elim
    | some o =>
      rw [ho] at A3
      cases y with
      | v dv =>
        obtain ⟨b', vo, eb, g1, g2⟩ := kget_of R3 ((T1.mono R1 e2).mono R2 e3) (T2.mono R2 e3) ho
        cases eb
        refine ⟨vo, g1, A3.val R3 ?_⟩
        rcases g2 with ⟨rfl, rfl⟩ | ⟨z, u, rfl, rfl, q3⟩
        · exact T3
        · exact q3
      | _ => exact A3.elim
  | _ => exact A2.elim
theorem kin_step {pos : Bool} {a k : E} {σ : L2.St} {H : Hp} {Q : VK} (h : tI γ W hx (evE G me (.kin pos k a)) σ H Q) :
    tI γ W hx (evE G me k) σ H fun y H1 => tI γ W hx (evE G me a) σ H1 fun x H2 => ∃ b o, x = .ref b ∧ DGet H2 b y o ∧ Q (.bl (if pos then o.isSome else !o.isSome)) H2 := by
  obtain ⟨ρ, env, st, hh, R, Re, A⟩ := h
  simp only [evE, asKey_bind] at A
  refine ⟨ρ, env, st, hh, R, Re, A.bind.imp ?_⟩
  rintro va H1 ⟨ρ1, st1, x, e1, R1, T1, -, A1⟩
  have A1 := A1.ext e1
  cases x with
  | v kx =>
    refine ⟨ρ1, env, st1, hh, R1, Re.mono R e1, A1.bind.imp ?_⟩
    rintro vc H3 ⟨ρ3, st3, y, e3, R3, T3, -, A3⟩
    have A3 := A3.ext e3
    simp only [kinM] at A3
    cases ho : kgetO y kx st3 with
    | none => rw [ho] at A3; exact A3.elim
    | some o =>
      rw [ho] at A3
      obtain ⟨b', vo, rfl, g1, g2⟩ := kget_of R3 T3 (T1.mono R1 e3) ho
      refine ⟨b', vo, rfl, g1, A3.val R3 ?_⟩
      rcases g2 with ⟨rfl, rfl⟩ | ⟨z, u, rfl, rfl, q3⟩ <;> rfl
  | _ => exact A1.elim
theorem s_kin {a k : E} {l r : Expr} (g : Good γ X sc W) (hk : PE X l (tI γ W hx (evE G me k))) (ha : PE X r (tI γ W hx (evE G me a))) : PC X .In l r (tI γ W hx (evE G me (.kin true k a))) :=
  ⟨fun pins s σ H Q I q => (pc_din g.hu1 hk ha).run pins s σ H Q I (kin_step q)⟩
theorem s_knin {a k : E} {l r : Expr} (g : Good γ X sc W) (hk : PE X l (tI γ W hx (evE G me k))) (ha : PE X r (tI γ W hx (evE G me a))) : PC X .NotIn l r (tI γ W hx (evE G me (.kin false k a))) :=
  ⟨fun pins s σ H Q I q => (pc_dnotin g.hu1 hk ha).run pins s σ H Q I (kin_step q)⟩
/-! ### new objects of the store -/
theorem Rep.push {ρ : List Addr} {st : Store} {H : Hp} {p : Addr} {u : HO} {o : IO} (R : Rep γ ρ st H) (hp : H p = none) (ho : RepO γ ρ (upd H p u) p o) : Rep γ (ρ ++ [p]) (st ++ [o]) (upd H p u) ∧ Ext ρ H (ρ ++ [p]) (upd H p u) ∧ RepV γ (ρ ++ [p]) (upd H p u) (.ref st.length) (.ref p) := by
  have n : p ∉ ρ := fun z => R.tracked z hp
  have R1 := R.laid (o := u) hp
  refine ⟨⟨by simp [R.len], ?_, fun i q h => ?_, R1.tb⟩, ⟨⟨[p], rfl⟩, fun b o h _ _ => by rw [upd_ne (ne_of_none h hp)]; exact h, fun b hb => ?_, fun b q => ?_⟩, ?_⟩
  · rw [List.nodup_append]
    exact ⟨R.nd, by simp, fun a ha b hb => by
      rw [List.mem_singleton] at hb; subst hb
      rintro rfl; exact n ha⟩
  · by_cases hi : i < st.length
    · rw [List.getElem?_append_left hi] at h
      obtain ⟨a, h1, h2⟩ := R1.ob i q h
      exact ⟨a, by rw [List.getElem?_append_left (by rw [R.len]; exact hi)]; exact h1, h2.grow [p]⟩
    · have hi2 : i = st.length := by
        have := (List.getElem?_eq_some_iff.mp h).1
        simp at this; omega
      subst hi2
      rw [List.getElem?_append_right (Nat.le_refl _)] at h
      simp at h
      subst h
      exact ⟨p, by rw [← R.len]; simp, ho.grow [p]⟩
  · rcases List.mem_append.mp hb with z | z
    · exact .inl z
    · rw [List.mem_singleton] at z; subst z; exact .inr hp
  · by_cases hb : b = p
    · rw [hb]; exact hp
    · rwa [upd_ne hb] at q
  · simp only [RepV]; exact ⟨p, by rw [← R.len]; simp, rfl⟩
theorem s_knew {pos : Pos} : PE X (.Dict [] [] pos) (tI γ W hx (evE G me .knew)) := by
  refine PE.imp pe_dnewK fun σ H Q h => ?_
  obtain ⟨ρ, env, st, hh, R, Re, A⟩ := h
  simp only [evE] at A
  intro p hp
  obtain ⟨R2, e, r⟩ := R.push (o := .dk []) (u := .dK []) hp ⟨[], upd_same, rfl⟩
  exact A _ _ (.ref p) e R2 r (fun a ha => by simp [ownA] at ha)
/-! ### {k: v, ..} -/
def konV : IV → V
  | .int i => .int i
  | .str x => .str x
  | _ => .non
theorem evEs_cons {v : E} {vs : List E} {env : Env} {st : Store} {ρ : List Addr} {H : Hp} {Q : List V → Hp → Prop} {E : XK} (A : AftL γ ρ H (evEs G me (v :: vs) env st) Q E) :
    Aft γ ρ H (evE G me v env st) (fun u H1 => ∃ ρ1 st1, Ext ρ H ρ1 H1 ∧ Rep γ ρ1 st1 H1 ∧ AftL γ ρ1 H1 (evEs G me vs env st1) (fun ws H2 => Q (u :: ws) H2) E) E := by
  simp only [evEs] at A
  cases hm : evE G me v env st with
  | exc x s => rw [hm] at A; exact A
  | bad => rw [hm] at A; exact A
  | ok y s =>
    rw [hm] at A
    intro ρ1 H1 u e1 R1 T1 fr1
    refine ⟨ρ1, s, e1, R1, ?_⟩
    simp only [Res.bind] at A
    cases hm : evEs G me vs env s with
    | ok xs s2 =>
      rw [hm] at A
      intro ρ2 H2 ws e2 R2 T2 n2 o2
      refine A ρ2 H2 (u :: ws) (e1.trans e2) R2 (by simp only [RepTs]; exact ⟨_, _, rfl, T1.mono R1 e2, T2⟩) ?_ ?_
      · simp only [ownAs, List.nodup_append]
        refine ⟨?_, n2, fun b hb c hc => ?_⟩
        · cases y with
          | v _ => simp [ownA]
          | l _ => obtain ⟨_, _, rfl, _⟩ := T1; simp [ownA]
          | s _ => exact T1.elim
          | d _ => exact T1.elim
        · rintro rfl
          exact (T1.own hb).2 (o2 b hc)
      · intro b hb
        simp only [ownAs, List.mem_append] at hb
        exact hb.elim (fr1 b) (fun z => e1.back b (o2 b z))
    | exc x s2 =>
      rw [hm] at A
      exact fun ρ2 H2 cls d e2 R2 X2 => A ρ2 H2 cls d (e1.trans e2) R2 X2
    | bad => rw [hm] at A; exact A
theorem disp_pairs {pos : Pos} : ∀ {ks vs : List E} {as bs : List Expr} {xs : List IV}, AllE γ X W hx G me ks as → AllE γ X W hx G me vs bs → constsOf ks = some xs → xs.all IV.key1 = true → ks.length = vs.length →
    ∃ trs, PPs X pos (as.map some) bs trs ∧ ∀ (σ : L2.St) (H : Hp) (Q : List (V × V) → Hp → Prop) (ρ : List Addr) (env : Env) (st : Store), hx env.hx σ → Rep γ ρ st H → REnv γ hx ρ H env σ → AftL γ ρ H (evEs G me vs env st) (fun ws H3 => Q ((xs.map konV).zip ws) H3) (fun cls d H' => W cls d σ H') →
      tPairs trs σ H Q
  | [], [], _, _, xs, .nil, .nil, hc, _, _ => by
    simp only [constsOf, Option.some.injEq] at hc
    subst hc
    refine ⟨[], pps_nil, fun σ H Q ρ env st hh R Re A => ?_⟩
    simp only [evEs] at A
    exact A ρ H [] (.refl ρ H) R rfl (by simp [ownAs]) (by simp [ownAs])
  | [], _ :: _, _, _, _, _, _, _, _, hl => by simp at hl
  | _ :: _, [], _, _, _, _, _, _, _, hl => by simp at hl
  | k :: ks, v :: vs, _, _, xs, .cons h1 _ t1, .cons h2 _ t2, hc, hk, hl => by
    obtain ⟨x0, rfl⟩ : ∃ x0, k = .c x0 := by
      cases k <;> simp only [constsOf, Option.map_eq_some_iff, reduceCtorEq] at hc
      exact ⟨_, rfl⟩
    simp only [constsOf, Option.map_eq_some_iff] at hc
    obtain ⟨ys, hc, rfl⟩ := hc
    simp only [List.all_cons, Bool.and_eq_true] at hk
    obtain ⟨trs, p1, p2⟩ := disp_pairs (pos := pos) t1 t2 hc hk.2 (by simpa using hl)
    refine ⟨_, pps_cons h1 h2 p1, fun σ H Q ρ env st hh R Re A => ?_⟩
    refine ⟨ρ, env, st, hh, R, Re, ?_⟩
    simp only [evE]
    intro ρ0 H0 v0 e0 R0 T0 _
    have ev : v0 = konV x0 := by
      have T0 : RepV γ ρ0 H0 x0 v0 := T0
      cases x0 <;> simp only [IV.key1, Bool.false_eq_true, false_and] at hk <;> simp only [RepV] at T0 <;> exact T0
    subst ev
    have A : AftL γ ρ0 H0 (evEs G me (v :: vs) env st) (fun ws H3 => Q (((x0 :: ys).map konV).zip ws) H3) (fun cls d H' => W cls d σ H') := A.ext e0
    refine ⟨ρ0, env, st, hh, R0, Re.mono R e0, (evEs_cons A).imp fun u H1 z => ?_⟩
    obtain ⟨ρ1, st1, e1, R1, A1⟩ := z
    exact p2 σ H1 (fun ps H3 => Q ((konV x0, u) :: ps) H3) ρ1 env st1 hh R1 ((Re.mono R e0).mono R0 e1) A1
theorem kDisp_len : ∀ (ks vs : List IV) (acc : List (IV × IV)), (kDisp ks vs acc).length ≤ acc.length + ks.length
  | [], _, acc => by simp [kDisp]
  | k :: ks, [], acc => by simp [kDisp]
  | k :: ks, v :: vs, acc => by
    simp only [kDisp]
    have h1 := kDisp_len ks vs (kPut1 k v acc)
    have h2 : (kPut1 k v acc).length ≤ acc.length + 1 := by unfold kPut1; split <;> simp
    simp only [List.length_cons]
    omega
theorem kDisp_rep {ρ : List Addr} {H : Hp} : ∀ {xs ys : List IV} {ws : List V} {acc : List (IV × IV)} {ka : List (L2.Key × V)}, xs.all IV.key1 = true → RepVs γ ρ H ys ws → xs.length = ys.length → RepK γ ρ H acc ka →
    ∃ kvs : List (L2.Key × V), (xs.map konV).zip ws = kvs.map (fun kv => (kV kv.1, kv.2)) ∧ kvs.length = xs.length ∧ RepK γ ρ H (kDisp xs ys acc) (mergeK ka kvs)
  | [], [], _, acc, ka, _, r, _, q => by
    simp only [RepVs] at r; subst r
    exact ⟨[], rfl, rfl, q⟩
  | [], _ :: _, _, _, _, _, _, hl, _ => by simp at hl
  | _ :: _, [], _, _, _, _, _, hl, _ => by simp at hl
  | x :: xs, y :: ys, _, acc, ka, hk, r, hl, q => by
    simp only [RepVs] at r
    obtain ⟨w, ws, rfl, r1, r2⟩ := r
    simp only [List.all_cons, Bool.and_eq_true] at hk
    obtain ⟨kk, ek⟩ : ∃ kk, key1Of x = some kk ∧ konV x = kV kk := by
      cases x <;> simp only [IV.key1, Bool.false_eq_true, false_and] at hk
      · exact ⟨.inl _, rfl, rfl⟩
      · exact ⟨.inr _, rfl, rfl⟩
    obtain ⟨kvs, z1, z2, z3⟩ := kDisp_rep hk.2 r2 (by simpa using hl) (kPut1_rep ek.1 r1 q)
    refine ⟨(kk, w) :: kvs, ?_, by simp [z2], z3⟩
    simp only [List.map_cons, List.zip_cons_cons, z1, ek.2]
theorem RepTs.len {ρ : List Addr} {H : Hp} : ∀ {xs : List TV} {vs : List V}, RepTs γ ρ H xs vs → vs.length = xs.length
  | [], _, h => by simp only [RepTs] at h; rw [h]; rfl
  | x :: xs, _, h => by
    simp only [RepTs] at h
    obtain ⟨w, ws, rfl, _, h2⟩ := h
    simp [RepTs.len h2]
theorem alike_dk {H : Hp} {D : Addr} {ks : List (L2.Key × V)} {u : HO} (h : H D = some (.dK ks)) : Alike H (L2.upd H D u) :=
  ⟨fun a xs q => by rw [upd_ne (fun z => by rw [z, h] at q; cases q)]; exact q, fun a o u q => by rw [upd_ne (fun z => by rw [z, h] at q; cases q)]; exact q, fun a fs q => by rw [upd_ne (fun z => by rw [z, h] at q; cases q)]; exact q, fun a φ q => by rw [upd_ne (fun z => by rw [z, h] at q; cases q)]; exact q⟩
/-- a dict that the store did not hold is taken in -/
theorem Rep.adopt {ρ : List Addr} {st : Store} {H : Hp} {p : Addr} {ks : List (L2.Key × V)} {u : HO} {o : IO} (R : Rep γ ρ st H) (hp : H p = some (.dK ks)) (n : p ∉ ρ) (ho : RepO γ ρ (upd H p u) p o) : Rep γ (ρ ++ [p]) (st ++ [o]) (upd H p u) ∧ RepV γ (ρ ++ [p]) (upd H p u) (.ref st.length) (.ref p) := by
  refine ⟨⟨by simp [R.len], ?_, fun i q h => ?_, TabsN.keep R.tb fun b v h n1 n2 n3 n4 => ?_⟩, ?_⟩
  · rw [List.nodup_append]
    exact ⟨R.nd, by simp, fun a ha b hb => by
      rw [List.mem_singleton] at hb; subst hb
      rintro rfl; exact n ha⟩
  · by_cases hi : i < st.length
    · rw [List.getElem?_append_left hi] at h
      obtain ⟨a, h1, h2⟩ := R.ob i q h
      have na : a ≠ p := fun z => n (z ▸ List.mem_of_getElem? h1)
      exact ⟨a, by rw [List.getElem?_append_left (by rw [R.len]; exact hi)]; exact h1, (h2.alike (alike_dk hp) (upd_ne na)).grow [p]⟩
    · have hi2 : i = st.length := by
        have := (List.getElem?_eq_some_iff.mp h).1
        simp at this; omega
      subst hi2
      rw [List.getElem?_append_right (Nat.le_refl _)] at h
      simp at h
      subst h
      exact ⟨p, by rw [← R.len]; simp, ho.grow [p]⟩
  · rw [upd_ne]
    · exact h
    · rintro rfl
      rw [h] at hp; exact n4 _ (Option.some.inj hp)
  · simp only [RepV]; exact ⟨p, by rw [← R.len]; simp, rfl⟩
theorem Ext.adopt {ρ ρ1 : List Addr} {H H1 : Hp} {p : Addr} {o u : HO} (hp : H p = none) (e : Ext ρ (L2.upd H p o) ρ1 H1) : Ext ρ H (ρ1 ++ [p]) (L2.upd H1 p u) := by
  obtain ⟨t, et⟩ := e.pre
  refine ⟨⟨t ++ [p], by rw [et, List.append_assoc]⟩, fun b v h n nt => ?_, fun b hb => ?_, fun b hb => ?_⟩
  · have nb : b ≠ p := ne_of_none h hp
    rw [upd_ne nb]
    exact e.keep b v (by rw [upd_ne nb]; exact h) n nt
  · rcases List.mem_append.mp hb with z | z
    · rcases e.new b z with z | z
      · exact .inl z
      · by_cases q : b = p
        · rw [q]; exact .inr hp
        · rw [upd_ne q] at z; exact .inr z
    · rw [List.mem_singleton] at z; rw [z]; exact .inr hp
  · by_cases q : b = p
    · rw [q]; exact hp
    · rw [upd_ne q] at hb
      have := e.back b hb
      rwa [upd_ne q] at this
theorem s_kdisp {ks vs : List E} {as bs : List Expr} {pos : Pos} (h1 : AllE γ X W hx G me ks as) (h2 : AllE γ X W hx G me vs bs) (hl : as.length = bs.length) (h0 : as ≠ []) (l1 : ks.length = as.length) (l2 : vs.length = bs.length) :
    PE X (.Dict (as.map some) bs pos) (tI γ W hx (evE G me (.kdisp ks vs))) := by
  cases hc : constsOf ks with
  | none => exact ⟨fun pins s σ H Q I q => by
      obtain ⟨ρ, env, st, hh, R, Re, A⟩ := q
      simp only [evE, hc] at A
      exact A.elim⟩
  | some xs =>
    by_cases hk : (xs.all IV.key1 && decide (xs.length ≤ 15)) = true
    case neg => exact ⟨fun pins s σ H Q I q => by
      obtain ⟨ρ, env, st, hh, R, Re, A⟩ := q
      simp only [evE, hc, if_neg hk] at A
      exact A.elim⟩
    case pos =>
      have hk' := hk
      simp only [Bool.and_eq_true, decide_eq_true_eq] at hk'
      have lx : ∀ {ks : List E} {xs : List IV}, constsOf ks = some xs → xs.length = ks.length := by
        intro ks
        induction ks with
        | nil => intro xs h; simp only [constsOf, Option.some.injEq] at h; subst h; rfl
        | cons k ks ih =>
          intro xs h
          cases k <;> simp only [constsOf, Option.map_eq_some_iff, reduceCtorEq] at h
          obtain ⟨ys, h, rfl⟩ := h
          simp [ih h]
      obtain ⟨trs, p1, p2⟩ := disp_pairs (pos := pos) h1 h2 hc hk'.1 (by omega)
      refine PE.imp (pe_disp p1 (by simp) (by simpa using hl) (by simpa using h0) (by rw [List.length_map, ← l1, ← lx hc]; exact hk'.2)) fun σ H Q q => ?_
      obtain ⟨ρ, env, st, hh, R, Re, A⟩ := q
      simp only [evE, hc, if_pos hk] at A
      intro p hp
      have n : p ∉ ρ := fun z => R.tracked z hp
      have e0 : Ext ρ H ρ (upd H p (.dK [])) := Ext.laid hp
      refine p2 σ _ _ ρ env st hh (R.laid hp) (Re.mono R e0) ?_
      cases hm : evEs G me vs env st with
      | bad => rw [hm] at A; exact A.elim
      | exc _ _ => rw [hm] at A; exact Aft.ext (r := .exc _ _) A e0
      | ok ts s1 =>
        rw [hm] at A
        intro ρ1 H1 ws e1 R1 T1 n1 o1
        simp only [Res.bind] at A
        cases hm2 : mats ts s1 with
        | bad => rw [hm2] at A; exact A.elim
        | exc _ _ => exact absurd hm2 mats_noexc
        | ok ys s2 =>
          rw [hm2] at A
          simp only at A
          obtain ⟨R2, r2⟩ := mats_ok R1 T1 n1 hm2
          have hp1 : H1 p = some (.dK []) := e1.keep _ _ upd_same n (fun _ z => by cases z)
          have ly : xs.length = ys.length := by rw [mats_len hm2, evEs_len hm, lx hc]; omega
          obtain ⟨kvs, z1, z2, z3⟩ := kDisp_rep hk'.1 r2 ly (acc := []) (ka := []) rfl
          refine ⟨hp1, kvs, z1, by omega, ?_⟩
          have nA : p ∉ ρ1 ++ ownAs ts ws := fun z => by
            rcases List.mem_append.mp z with z | z
            · rcases e1.new p z with z | z
              · exact n z
              · rw [upd_same] at z; cases z
            · have := o1 p z
              rw [upd_same] at this; cases this
          have eM : Ext ρ (upd H p (.dK [])) (ρ1 ++ ownAs ts ws) H1 := e1.mat o1
          obtain ⟨R3, r3⟩ := R2.adopt (u := .dK (mergeK [] kvs)) (o := .dk (kDisp xs ys [])) hp1 nA ⟨_, upd_same, z3.alike (alike_dk hp1)⟩
          exact A _ _ (.ref p) (Ext.adopt hp eM) R3 r3 (fun a ha => by simp [ownA] at ha)
end
end MP

set_option linter.all false
set_option autoImplicit false
set_option Elab.async false
set_option maxRecDepth 100000
namespace MP
open PySem L2 PySem.Spec PyProof.Rows PySem.W PySem.SeqAt
/-! ### forms -/
mutual
theorem sameF_sym : ∀ {x y : IV}, sameF x y = true → sameF y x = true
  | .bl _, y, h => by cases y <;> first | rfl | simp [sameF] at h
  | .int _, y, h => by cases y <;> first | rfl | simp [sameF] at h
  | .str _, y, h => by cases y <;> first | rfl | simp [sameF] at h
  | .tup xs, y, h => by
    cases y <;> first | (simp [sameF] at h; done) | skip
    simp only [sameF] at h ⊢
    exact sameFs_sym h
  | .non, y, h => by simp [sameF] at h
  | .frz _, y, h => by simp [sameF] at h
  | .ref _, y, h => by simp [sameF] at h
theorem sameFs_sym : ∀ {x y : List IV}, sameFs x y = true → sameFs y x = true
  | [], [], _ => rfl
  | [], _ :: _, h => by simp [sameFs] at h
  | _ :: _, [], h => by simp [sameFs] at h
  | x :: xs, y :: ys, h => by
    simp only [sameFs, Bool.and_eq_true] at h ⊢
    exact ⟨sameF_sym h.1, sameFs_sym h.2⟩
end
mutual
theorem sameF_tr : ∀ {x y z : IV}, sameF x y = true → sameF y z = true → sameF x z = true
  | .bl _, y, z, h, q => by cases y <;> first | (simp [sameF] at h; done) | skip
                            cases z <;> first | rfl | simp [sameF] at q
  | .int _, y, z, h, q => by cases y <;> first | (simp [sameF] at h; done) | skip
                             cases z <;> first | rfl | simp [sameF] at q
  | .str _, y, z, h, q => by cases y <;> first | (simp [sameF] at h; done) | skip
                             cases z <;> first | rfl | simp [sameF] at q
  | .tup xs, y, z, h, q => by
    cases y <;> first | (simp [sameF] at h; done) | skip
    cases z <;> first | (simp [sameF] at q; done) | skip
    simp only [sameF] at h q ⊢
    exact sameFs_tr h q
  | .non, y, _, h, _ => by simp [sameF] at h
  | .frz _, y, _, h, _ => by simp [sameF] at h
  | .ref _, y, _, h, _ => by simp [sameF] at h
theorem sameFs_tr : ∀ {x y z : List IV}, sameFs x y = true → sameFs y z = true → sameFs x z = true
  | [], [], z, _, q => q
  | [], _ :: _, _, h, _ => by simp [sameFs] at h
  | _ :: _, [], _, h, _ => by simp [sameFs] at h
  | x :: xs, y :: ys, [], _, q => by simp [sameFs] at q
  | x :: xs, y :: ys, z :: zs, h, q => by
    simp only [sameFs, Bool.and_eq_true] at h q ⊢
    exact ⟨sameF_tr h.1 q.1, sameFs_tr h.2 q.2⟩
end
theorem same_mix : ∀ {xs ys : List IV}, sameFs xs ys = true → mixTs xs ys = true
  | [], _, _ => by simp [mixTs]
  | x :: xs, [], _ => by simp [mixTs]
  | x :: xs, y :: ys, h => by
    simp only [sameFs, Bool.and_eq_true] at h
    simp only [mixTs, Bool.and_eq_true, Bool.or_eq_true]
    exact ⟨h.1, .inr (same_mix h.2)⟩
/-- what a list's check tells of any two of it -/
theorem mixOk_two {xs : List IV} (h : mixOk xs = true) {x y : IV} (hx : x ∈ xs) (hy : y ∈ xs) : ∃ a b s t, x = .tup (.str a :: s) ∧ y = .tup (.str b :: t) ∧ mixTs (.str a :: s) (.str b :: t) = true := by
  have key : ∀ z ∈ xs, ∃ c u r, z = .tup (.str c :: u) ∧ repOf c xs = some r ∧ sameF z r = true := fun z hz => by
    have := List.all_eq_true.mp h z hz
    split at this
    · rename_i c hc
      split at this
      · rename_i r hr
        unfold headOf at hc
        split at hc
        · cases hc; exact ⟨_, _, r, rfl, hr, this⟩
        · cases hc
      · cases this
    · cases this
  obtain ⟨a, s, r, rfl, r1, s1⟩ := key x hx
  obtain ⟨b, t, r', rfl, r2, s2⟩ := key y hy
  refine ⟨a, b, s, t, rfl, rfl, ?_⟩
  by_cases e : a = b
  · subst e
    rw [r1] at r2; cases r2
    have z := sameF_tr s1 (sameF_sym s2)
    simp only [sameF] at z
    exact same_mix z
  · simp only [mixTs, sameF, pyEq, Bool.true_and, Bool.or_eq_true, Bool.not_eq_true', decide_eq_false_iff_not]
    exact .inl e
/-! ### what a value reads as -/
mutual
theorem read_one {h : Heap} : ∀ {x y : IV} {u : Value} {as bs : List Addr}, x.plain = true → y.plain = true → Reads h u (toD x) as → Reads h u (toD y) bs → toD x = toD y
  | .frz _, _, _, _, _, p, _, _, _ => by simp [IV.plain] at p
  | .ref _, _, _, _, _, p, _, _, _ => by simp [IV.plain] at p
  | .non, y, u, _, _, _, q, r, t => by
    cases r
    cases y <;> simp only [toD] at t <;> first | rfl | (simp [IV.plain] at q; done) | cases t
  | .bl _, y, u, _, _, _, q, r, t => by
    cases r
    cases y <;> simp only [toD] at t <;> first | (cases t; rfl) | (simp [IV.plain] at q; done) | cases t
  | .int _, y, u, _, _, _, q, r, t => by
    cases r
    cases y <;> simp only [toD] at t <;> first | (cases t; rfl) | (simp [IV.plain] at q; done) | cases t
  | .str _, y, u, _, _, _, q, r, t => by
    cases r
    cases y <;> simp only [toD] at t <;> first | (cases t; rfl) | (simp [IV.plain] at q; done) | cases t
  | .tup xs, y, u, _, _, p, q, r, t => by
    simp only [toD] at r
    cases r with
    | tuple a1 a2 a3 a4 =>
      cases y <;> simp only [toD] at t <;> first | (simp [IV.plain] at q; done) | skip
      all_goals first | (cases t; done) | skip
      cases t with
      | tuple b1 b2 b3 b4 =>
        rw [a1] at b1; cases b1
        rw [a3] at b3; cases b3
        simp only [IV.plain] at p q
        simp only [toD]
        rw [reads_one p q a4 b4]
theorem reads_one {h : Heap} : ∀ {x y : List IV} {u : List Value} {as bs : List Addr}, IV.plains x = true → IV.plains y = true → ReadsAll h u (toDs x) as → ReadsAll h u (toDs y) bs → toDs x = toDs y
  | [], [], _, _, _, _, _, _, _ => rfl
  | [], y :: ys, _, _, _, _, _, r, t => by
    simp only [toDs] at r t
    cases r; cases t
  | x :: xs, [], _, _, _, _, _, r, t => by
    simp only [toDs] at r t
    cases t; cases r
  | x :: xs, y :: ys, _, _, _, p, q, r, t => by
    simp only [toDs] at r t ⊢
    simp only [IV.plains, Bool.and_eq_true] at p q
    cases r with
    | cons r1 r2 =>
      cases t with
      | cons t1 t2 => rw [read_one p.1 q.1 r1 t1, reads_one p.2 q.2 r2 t2]
end
theorem plains_mem {xs : List IV} (h : IV.plains xs = true) {x : IV} (hx : x ∈ xs) : x.plain = true := by
  induction xs with
  | nil => cases hx
  | cons y ys ih =>
    simp only [IV.plains, Bool.and_eq_true] at h
    rcases List.mem_cons.mp hx with rfl | hx
    · exact h.1
    · exact ih h.2 hx
theorem deps_mem {n : Nat} {xs : List IV} (h : IV.deps xs ≤ n) {x : IV} (hx : x ∈ xs) : x.dep ≤ n := by
  induction xs with
  | nil => cases hx
  | cons y ys ih =>
    simp only [IV.deps] at h
    rcases List.mem_cons.mp hx with rfl | hx
    · omega
    · exact ih (by omega) hx
/-! ### the sort's own way of comparing -/
section
variable {prog : Program} {w : World} {A : Around} {s : Shared}
theorem kat_mixed {fin : Bool} {Q : Bool → Shared → Prop} : ∀ (xs ys : List PyData) (k : Nat) {vs ws : List Value} {as bs : List Addr}, ReadsAll s.heap vs xs as → ReadsAll s.heap ws ys bs → mixD xs ys = true → A.units + min (PyData.depthAll xs) (PyData.depthAll ys) < cLine →
    (k = 0 → ∀ x r t, xs = x :: r → x ≠ .tuple t) → fin = decide (xs.length < ys.length) → Q (PyProof.Rows.lexLt itemOrd (keyToksAll xs) (keyToksAll ys)) s → KatLex prog w A true fin Q (vs.zip ws) k s
  | [], [], k, _, _, _, _, r, t, _, _, _, hf, hq => by
    cases r; cases t
    refine kat_nil ?_
    have e : fin = PyProof.Rows.lexLt itemOrd (keyToksAll []) (keyToksAll []) := by rw [hf, lex_irrefl]; rfl
    rw [e]; exact hq
  | [], y :: ys, k, _, _, _, _, r, t, _, _, _, hf, hq => by
    cases r; cases t
    refine kat_nil ?_
    rw [lex_end] at hq
    rw [hf]; exact hq
  | x :: xs, [], k, _, _, _, _, r, t, _, _, _, hf, hq => by
    cases r; cases t
    refine kat_nil ?_
    rw [lex_beg] at hq
    rw [hf]; exact hq
  | x :: xs, y :: ys, k, _, _, _, _, r, t, h, hu, h0, hf, hq => by
    obtain ⟨m1, m2⟩ := mixD_cons h
    cases r with
    | cons r1 r2 =>
      cases t with
      | cons t1 t2 =>
        rw [List.zip_cons_cons]
        have here := eqAt_alike x y A s _ _ _ _ r1 t1 m1 (room_head hu)
        refine kat_cons (here prog w _ _ ?_)
        cases q : PyData.eqv x y with
        | true =>
          rw [dataLt_all_yes m1 q] at hq
          refine kat_yes (kat_mixed xs ys (k + 1) r2 t2 (m2 q) (room_tail hu) (fun z => by omega) ?_ hq)
          rw [hf]; simp
        | false =>
          rw [dataLt_all_no m1 q] at hq
          refine kat_no (oneLt_alike (fun z t => ?_) r1 t1 m1 (alike_none m1 q) (room_head hu) hq)
          exact h0 (by simpa using z) x xs t rfl
end
/-! ### a list of data that its check lets through can be sorted -/
theorem key_here {h : Heap} {xs : List IV} (p : IV.plains xs = true) {x : IV} {u : Value} {as : List Addr} (hx : x ∈ xs) (r : Reads h u (toD x) as) : (dataKind h (xs.map toD)).keyOf u = some (keyToks (toD x)) := by
  have ex : ∃ d, d ∈ xs.map toD ∧ ∃ as, Reads h u d as := ⟨_, List.mem_map_of_mem hx, as, r⟩
  cases q : (dataKind h (xs.map toD)).keyOf u with
  | none =>
    exfalso
    have : (dataKind h (xs.map toD)).keyOf u = some (keyToks ex.choose) := by
      show (open Classical in if q : ∃ d, d ∈ xs.map toD ∧ ∃ as, Reads h u d as then some (keyToks q.choose) else none) = _
      exact dif_pos ex
    rw [this] at q; cases q
  | some k =>
    obtain ⟨d, bs, hd, rd, rfl⟩ := dataKind_inv q
    obtain ⟨y, hy, rfl⟩ := List.mem_map.mp hd
    exact congrArg (fun d => some (keyToks d)) (read_one (plains_mem p hy) (plains_mem p hx) rd r)
theorem each_to {h : Heap} : ∀ {vs : List Value} {xs : List IV}, EachIs (fun v x => ∃ as, Reads h v (toD x) as) vs xs → EachIs (fun v d => ∃ as, Reads h v d as) vs (xs.map toD)
  | _, _, .nil => .nil
  | _, _, .cons h t => .cons h (each_to t)
theorem sorts_mixed {prog : Program} {w : World} {A : Around} {s : Shared} {vs : List Value} {xs : List IV} (e : EachIs (fun v x => ∃ as, Reads s.heap v (toD x) as) vs xs) (p : IV.plains xs = true) (m : mixOk xs = true) (hu : ∀ x ∈ xs, A.units + x.dep < cLine) :
    SortsAt prog w A s (dataKind s.heap (xs.map toD)) vs := by
  refine ⟨fun v hv => ?_, tuples' true, ?_, fun h2 E Q hq => ?_⟩
  · obtain ⟨x, hx, as, r⟩ := e.left v hv
    exact ⟨_, key_here p hx r⟩
  · intro E u v a b Q ha hb hq
    obtain ⟨d, as, hd, ra, rfl⟩ := dataKind_inv ha
    obtain ⟨d', bs, hd', rb, rfl⟩ := dataKind_inv hb
    obtain ⟨x, hx, rfl⟩ := List.mem_map.mp hd
    obtain ⟨y, hy, rfl⟩ := List.mem_map.mp hd'
    obtain ⟨c1, c2, t1, t2, rfl, rfl, mx⟩ := mixOk_two m hx hy
    have p1 := plains_mem p hx
    have p2 := plains_mem p hy
    simp only [IV.plain] at p1 p2
    have md := mix_of p1 p2 mx
    have u1 := hu _ hx
    have hq' : Q (PyProof.Rows.lexLt itemOrd (keyToksAll (toDs (.str c1 :: t1))) (keyToksAll (toDs (.str c2 :: t2)))) s := hq
    simp only [toD] at ra rb
    cases ra with
    | @tuple l o us n _ _ h1 h2 h3 h4 =>
      cases rb with
      | @tuple l' o' us' n' _ _ k1 k2 k3 k4 =>
        have n1 := ReadsAll.length _ _ _ h4
        have n2 := ReadsAll.length _ _ _ k4
        refine kat_lt h1 h3 k1 k3 (kat_mixed _ _ 0 h4 k4 md ?_ (fun _ x r t ez => ?_) ?_ hq')
        · rw [deps_of p1]
          simp only [IV.dep] at u1
          omega
        · simp only [toDs, List.cons.injEq] at ez
          rw [← ez.1]
          simp [toD]
        · simp only [Array.length_toList] at n1 n2
          rw [n1, n2]
  · have ht : ∀ {vs : List Value} {zs : List IV}, (∀ z ∈ zs, z ∈ xs) → EachIs (fun v x => ∃ as, Reads s.heap v (toD x) as) vs zs → ∃ fs, KatTups s.heap vs fs ∧ fs.length = vs.length ∧ ∀ f ∈ fs, ∃ c t, f = Value.str c t := by
      intro vs zs hz e
      induction e with
      | nil => exact ⟨[], KatTups.nil, rfl, fun f hf => by cases hf⟩
      | @cons v z vs zs h1 h2 ih =>
        obtain ⟨fs, q1, q2, q3⟩ := ih fun z hz' => hz z (List.mem_cons_of_mem _ hz')
        obtain ⟨as, r⟩ := h1
        obtain ⟨c1, c2, t1, t2, rfl, -, -⟩ := mixOk_two m (hz _ List.mem_cons_self) (hz _ List.mem_cons_self)
        simp only [toD, toDs] at r
        cases r with
        | @tuple l o us n _ _ h1 h2 h3 h4 =>
          obtain ⟨u0, ur, eu⟩ : ∃ u0 ur, us.toList = u0 :: ur := by
            cases h4' : us.toList with
            | nil => rw [h4'] at h4; cases h4
            | cons a b => exact ⟨a, b, rfl⟩
          rw [eu] at h4
          have g1 : ∃ tk, u0 = Value.str c1 tk := by
            cases h4 with
            | cons g1 g2 => cases g1; exact ⟨_, rfl⟩
          obtain ⟨tk, rfl⟩ := g1
          · refine ⟨Value.str c1 tk :: fs, KatTups.cons h1 h2 h3 (f := Value.str c1 tk) ?_ q1, by simp [q2], fun f hf => ?_⟩
            · rw [← Array.getElem?_toList, eu]; rfl
            · rcases List.mem_cons.mp hf with rfl | hf
              · exact ⟨_, _, rfl⟩
              · exact q3 f hf
    obtain ⟨fs, q1, q2, q3⟩ := ht (fun z hz => hz) e
    refine kat_kind (T := .type "str") q1 (by omega) (fun f hf => ?_) (by rfl) ?_
    · obtain ⟨c, t, rfl⟩ := q3 f hf
      exact PySem.W.Looks.now
    · have eT : (Value.type "str" != Value.type "tuple") = true := by decide +kernel
      rw [eT]
      exact hq

/-! ### sorted, list of a dict -/
section
variable {γ : Gm} {X : Cx} {sc : Sc} {W : WX} {G : Orc} {me : FnDef} {hx : HX}
def rSortI (γ : Gm) : List V → Hp → VK → Prop := fun vs H Q => ∃ ρ st x v E, vs = [v] ∧ Rep γ ρ st H ∧ RepT γ ρ H x v ∧ Aft γ ρ H (sortM x st) Q E
theorem each_pairs {ρ : List Addr} {H : Hp} : ∀ {xs : List IV} {vs : List V} {us : List Value}, RepVs γ ρ H xs vs → Vals vs us → EachIs (fun u x => ∃ v, RelV v u ∧ RepV γ ρ H x v) us xs
  | [], _, _, h, r => by
    simp only [RepVs] at h; subst h
    cases r
    exact .nil
  | x :: xs, _, _, h, r => by
    simp only [RepVs] at h
    obtain ⟨w, ws, rfl, h1, h2⟩ := h
    cases r with
    | cons r1 r2 => exact .cons ⟨w, r1, h1⟩ (each_pairs h2 r2)
theorem pairs_back {ρ : List Addr} {H : Hp} : ∀ {xs : List IV} {us : List Value}, EachIs (fun u x => ∃ v, RelV v u ∧ RepV γ ρ H x v) us xs → ∃ vs, Vals vs us ∧ RepVs γ ρ H xs vs
  | _, _, .nil => ⟨[], .nil, by simp [RepVs]⟩
  | _, _, .cons ⟨v, r1, h1⟩ t => by
    obtain ⟨vs, r2, h2⟩ := pairs_back t
    exact ⟨v :: vs, .cons r1 r2, by simp only [RepVs]; exact ⟨_, _, rfl, h1, h2⟩⟩
theorem each_reads {pins : List (Addr × Obj)} {σ : L2.St} {H : Hp} {s : Shared} {ρ : List Addr} (hK : X.K = γ.K) (I : Inv X pins σ H s) : ∀ {xs : List IV} {us : List Value}, IV.plains xs = true → EachIs (fun u x => ∃ v, RelV v u ∧ RepV γ ρ H x v) us xs → EachIs (fun u x => ∃ as, Reads s.heap u (toD x) as) us xs
  | _, _, _, .nil => .nil
  | _, _, p, .cons ⟨v, r1, h1⟩ t => by
    simp only [IV.plains, Bool.and_eq_true] at p
    have d := dp_of p.1 h1
    rw [← hK] at d
    exact .cons (Dp.reads I _ _ _ d r1) (each_reads hK I p.2 t)
theorem oneOk_two {xs : List IV} (h : oneOk xs = true) : (∀ x ∈ xs, ∀ y ∈ xs, sameF x y = true) ∧ ((∀ x ∈ xs, MP.filled x = true) ∨ ∀ x ∈ xs, isTupV x = false) := by
  cases xs with
  | nil => exact ⟨fun x hx => by (cases hx), .inl fun x hx => by (cases hx)⟩
  | cons z zs =>
    simp only [oneOk, Bool.and_eq_true, Bool.or_eq_true] at h
    refine ⟨fun x hx y hy => sameF_tr (List.all_eq_true.mp h.1 x hx) (sameF_sym (List.all_eq_true.mp h.1 y hy)), h.2.imp (fun q x hx => List.all_eq_true.mp q x hx) fun q x hx => ?_⟩
    have := List.all_eq_true.mp q x hx
    simpa using this
theorem cr_sortI (hK : X.K = γ.K) (hu : X.A.units + 100 < cLine) : CallR X (.builtin "sorted") (rSortI γ) := by
  intro pins s σ H vs us Q I r h
  obtain ⟨ρ, st, x, v, E, rfl, R, T, A⟩ := h
  unfold sortM at A
  split at A
  case h_2 => exact A.elim
  rename_i xs hxs
  split at A
  case isFalse => exact A.elim
  rename_i ok
  simp only [srtOk, Bool.and_eq_true, Bool.or_eq_true, decide_eq_true_eq] at ok
  obtain ⟨⟨ok, pl⟩, dp⟩ := ok
  obtain ⟨a, ws, rfl, hs, rv⟩ := itemsL_sq R T hxs
  obtain ⟨its, rvs, hl, hz⟩ := I.list (by rw [hK]; exact hs)
  obtain ⟨u, rfl, ru⟩ := r.one
  cases ru
  have e := each_pairs rv rvs
  have er := each_reads hK I pl e
  have dpx : ∀ x ∈ xs, x.dep ≤ 60 := fun x hx => deps_mem dp hx
  have eL : its.length = xs.length := e.length
  have hz' : its.length ≤ sizeLine := by rw [eL, ← rv.length]; exact hz
  have er' : EachIs (fun u x => ∃ as, Reads (sortingHeap (copyHeap s.heap its) (s.heap.objs.size + 1) its) u (toD x) as) its xs := er.mono fun _ _ ⟨as, r⟩ => ⟨as, PyProof.Rows.Reads.keeps (fun _ _ => sorting_copy_old) r⟩
  have S : SortsAt X.prog X.w X.A.in1.in1 { s with heap := sortingHeap (copyHeap s.heap its) (s.heap.objs.size + 1) its } (dataKind (sortingHeap (copyHeap s.heap its) (s.heap.objs.size + 1) its) (xs.map toD)) its := by
    rcases ok with ok | ok
    · obtain ⟨k1, k2⟩ := oneOk_two ok
      refine SortsAt.data (s := { s with heap := sortingHeap (copyHeap s.heap its) (s.heap.objs.size + 1) its }) (each_to er') (fun d hd d' hd' => ?_) ?_ fun d hd => ?_
      · obtain ⟨x, hx, rfl⟩ := List.mem_map.mp hd
        obtain ⟨y, hy, rfl⟩ := List.mem_map.mp hd'
        exact same_alike (k1 x hx y hy)
      · rcases k2 with k2 | k2
        · refine .inl fun d hd => ?_
          obtain ⟨x, hx, rfl⟩ := List.mem_map.mp hd
          have := k2 x hx
          unfold MP.filled at this
          split at this
          · exact ⟨_, _, rfl⟩
          · cases this
        · refine .inr fun d hd => ?_
          obtain ⟨x, hx, rfl⟩ := List.mem_map.mp hd
          have n := k2 x hx
          have k := k1 x hx x hx
          cases x <;> first | (simp [sameF] at k; done) | (simp [isTupV] at n; done) | exact ⟨by simp [toD], by intro _; simp [toD]⟩
      · obtain ⟨x, hx, rfl⟩ := List.mem_map.mp hd
        rw [dep_of (plains_mem pl hx)]
        have := dpx x hx
        show X.A.units + 1 + 1 + x.dep < cLine
        omega
    · exact sorts_mixed (s := { s with heap := sortingHeap (copyHeap s.heap its) (s.heap.objs.size + 1) its }) er' pl ok fun x hx => by
        have := dpx x hx
        show X.A.units + 1 + 1 + x.dep < cLine
        omega
  have hk : ∀ {us : List Value} {zs : List IV}, (∀ z ∈ zs, z ∈ xs) → EachIs (fun u x => ∃ as, Reads (sortingHeap (copyHeap s.heap its) (s.heap.objs.size + 1) its) u (toD x) as) us zs →
      EachIs (fun u b => (dataKind (sortingHeap (copyHeap s.heap its) (s.heap.objs.size + 1) its) (xs.map toD)).keyOf u = some (keyToks (toD b))) us zs := by
    intro us zs hz e
    induction e with
    | nil => exact .nil
    | cons h1 h2 ih =>
      obtain ⟨as, r⟩ := h1
      exact .cons (key_here pl (hz _ List.mem_cons_self) r) (ih fun z hz' => hz z (List.mem_cons_of_mem _ hz'))
  have out := sortVals_each (κ := dataKind (sortingHeap (copyHeap s.heap its) (s.heap.objs.size + 1) its) (xs.map toD)) (rev := false) (fun b => keyToks (toD b)) e (hk (fun _ z => z) er')
  refine sorted_vals hl.isList S hz' ?_
  obtain ⟨vs', v1, v2⟩ := pairs_back (xs := sortIV xs) out
  obtain ⟨n, hn⟩ := PyProof.Rows.sortedAll_at s.heap its (sortVals (dataKind (sortingHeap (copyHeap s.heap its) (s.heap.objs.size + 1) its) (xs.map toD)) false its its).toArray
  have hp : H (s.heap.objs.size + 1) = none := I.hok.fresh (Nat.le_succ _)
  refine ⟨.ref _, upd H (s.heap.objs.size + 1) (.lst vs'), I.laid (t' := s.toks) (fun _ _ => PyProof.Rows.sortedAll_old) (Nat.le_succ _) ⟨?_, _, n, v1, hn⟩, rfl, A.newL R v2 _ hp⟩
  rw [v1.length, sortVals_length false rfl]
  exact hz'
theorem s_sortT {a : E} {o : Expr} {p pos : Pos} (g : Good γ X sc W) (hg : globB sc "sorted" = true) (hn : notStar o = true) (ha : PE X o (tI γ W hx (evE G me a))) :
    PE X (.Call (.Name "sorted" p) [o] [] pos) (tI γ W hx (evE G me (.sortT a))) := by
  obtain ⟨q1, q2, q3⟩ := g.gl hg
  refine PE.imp (pe_callB (p := p) (pos := pos) (cr_sortI g.hK g.hu) q1 (g.free "sorted" (by decide +kernel)) (by decide +kernel) (pa_cons ha pa_nil (star_one hn _ _)) q3 q2 (star_one hn _ _) rfl) fun σ H Q q => ?_
  obtain ⟨ρ, env, st, hh, R, Re, A⟩ := q
  simp only [evE] at A
  refine ⟨ρ, env, st, hh, R, Re, A.bind.imp ?_⟩
  rintro va H1 ⟨ρ1, st1, x, e1, R1, T1, -, A1⟩
  exact ⟨ρ1, st1, x, va, _, rfl, R1, T1, A1.ext e1⟩
theorem isKeys_rep {ρ : List Addr} {H : Hp} : ∀ {kvs : List (IV × IV)} {ks : List (List L2.Key × V)} {bs : List Addr}, RepD γ ρ H kvs ks → IsKeys H ks bs → RepVs γ ρ H (kvs.map (·.1)) (bs.map V.ref)
  | [], _, bs, r, q => by
    simp only [RepD] at r; subst r
    cases q
    simp [RepVs]
  | (k, x) :: kvs, _, bs, r, q => by
    simp only [RepD] at r
    obtain ⟨ys, k2, v, t, rfl, rfl, h1, h2, h3⟩ := r
    cases q with
    | cons q1 q2 =>
      simp only [List.map_cons, RepVs]
      refine ⟨_, _, rfl, ?_, isKeys_rep h3 q2⟩
      simp only [RepV]
      exact ⟨_, _, rfl, TupAt.of q1, keys_vals h1⟩
  where
  keys_vals : ∀ {xs : List IV} {kk : List L2.Key}, keysOf xs = some kk → RepVs γ ρ H xs (kk.map kV)
    | [], kk, h => by simp only [keysOf, Option.some.injEq] at h; subst h; simp [RepVs]
    | x :: xs, kk, h => by
      cases x <;> simp only [keysOf, Option.map_eq_some_iff, reduceCtorEq] at h <;> obtain ⟨c, h, rfl⟩ := h <;> simp only [List.map_cons, RepVs] <;> exact ⟨_, _, rfl, by simp [RepV, kV], keys_vals h⟩
theorem s_dlist {a : E} {o : Expr} {p pos : Pos} (g : Good γ X sc W) (hcm : sc.calm = true) (hg : globB sc "list" = true) (hn : notStar o = true) (ha : PE X o (tI γ W hx (evE G me a))) :
    PE X (.Call (.Name "list" p) [o] [] pos) (tI γ W hx (evE G me (.dlist a))) := by
  obtain ⟨q1, q2, q3⟩ := g.gl hg
  refine PE.imp (pe_callTy (p := p) (pos := pos) (call_list_dT (g.calm hcm)) q1 (g.free "list" (by decide +kernel)) (by decide +kernel) (pa_cons ha pa_nil (star_one hn _ _)) q3 q2 (star_one hn _ _) rfl) fun σ H Q q => ?_
  obtain ⟨ρ, env, st, hh, R, Re, A⟩ := q
  simp only [evE] at A
  refine ⟨ρ, env, st, hh, R, Re, A.bind.imp ?_⟩
  rintro va H1 ⟨ρ1, st1, x, e1, R1, T1, -, A1⟩
  have A1 := A1.ext e1
  unfold dlistM at A1
  cases hd : dicAt st1 x with
  | none => simp only [hd] at A1; exact A1.elim
  | some w =>
    obtain ⟨r, kvs⟩ := w
    simp only [hd] at A1
    obtain ⟨b, ks, rfl, -, h1, h2, -⟩ := dic_at R1 T1 hd
    exact ⟨b, ks, rfl, .inl h1, fun pl bs hpl hk => A1.newL R1 (isKeys_rep h2 hk) pl hpl⟩
end
end MP

set_option linter.all false
set_option autoImplicit false
set_option Elab.async false
set_option maxRecDepth 100000
namespace MP
open PySem L2
section
variable {γ : Gm} {X : Cx} {sc : Sc} {W : WX} {G : Orc} {me : FnDef} {hx : HX}
/-- the new list at D while the turns are made -/
structure Lay (γ : Gm) (ρ0 : List Addr) (H0 : Hp) (D : Addr) (ρ : List Addr) (st : Store) (acc : List IV) (H : Hp) : Prop where
  ext : Ext ρ0 H0 ρ H
  rep : Rep γ ρ st H
  out : D ∉ ρ
  row : ∃ vs, H D = some (.lst vs) ∧ RepVs γ ρ H acc vs
theorem Lay.step {ρ0 ρ ρ' : List Addr} {H0 H H' : Hp} {D : Addr} {st st' : Store} {acc : List IV} (l : Lay γ ρ0 H0 D ρ st acc H) (e : Ext ρ H ρ' H') (R : Rep γ ρ' st' H') : Lay γ ρ0 H0 D ρ' st' acc H' := by
  obtain ⟨vs, h1, h2⟩ := l.row
  refine ⟨l.ext.trans e, R, fun z => ?_, vs, e.keep _ _ h1 l.out (fun _ z => by cases z), h2.mono l.rep e⟩
  rcases e.new D z with z | z
  · exact l.out z
  · rw [h1] at z; cases z
/-- a settled value is put behind it -/
theorem Lay.put {ρ0 ρ ρ' : List Addr} {H0 H H' : Hp} {D : Addr} {st st' : Store} {acc : List IV} {y : TV} {z : IV} {w : V} (h0 : H0 D = none) (l : Lay γ ρ0 H0 D ρ st acc H) (e : Ext ρ H ρ' H') (R : Rep γ ρ' st' H') (T : RepT γ ρ' H' y w) (fr : ∀ a ∈ ownA y w, H a = none) {st2 : Store} (hm : mat y st' = .ok z st2) :
    ∃ vs, H' D = some (.lst vs) ∧ vs.length = acc.length ∧ Ext ρ H (ρ' ++ ownA y w) H' ∧ Rep γ (ρ' ++ ownA y w) st2 H' ∧ D ∉ ρ' ++ ownA y w ∧ Lay γ ρ0 H0 D (ρ' ++ ownA y w) st2 (acc ++ [z]) (upd H' D (.lst (vs ++ [w]))) := by
  obtain ⟨vs, h1, h2⟩ := l.row
  obtain ⟨R2, r2⟩ := mat_ok R T hm
  have hD : H' D = some (.lst vs) := e.keep _ _ h1 l.out (fun _ z => by cases z)
  have nD : D ∉ ρ' ++ ownA y w := fun z => by
    rcases List.mem_append.mp z with z | z
    · rcases e.new D z with z | z
      · exact l.out z
      · rw [h1] at z; cases z
    · have := fr D z
      rw [h1] at this; cases this
  have eM : Ext ρ H (ρ' ++ ownA y w) H' := e.mat fr
  have al := alike_upd (ws := vs ++ [w]) hD
  refine ⟨vs, hD, h2.length, eM, R2, nD, ⟨(l.ext.trans eM).but h0, R2.but hD nD, nD, _, upd_same, ?_⟩⟩
  exact ((h2.mono l.rep eM).alike al).app (by simp only [RepVs]; exact ⟨_, _, rfl, r2.alike al, rfl⟩)
theorem compG_gd {gd : Store → Bool} {env : Env} {tgt : Env → IV → Store → Res Env} {ifs : Env → Store → Res Bool} {elt : Env → Store → Res TV} {xs acc : List IV} {st : Store} (h : compG gd env tgt ifs elt xs acc st ≠ .bad) : gd st = true := by
  cases xs with
  | nil =>
    unfold compG at h
    split at h
    · assumption
    · exact absurd rfl h
  | cons x xs =>
    unfold compG at h
    split at h
    · assumption
    · exact absurd rfl h
/-- the turns of the second clause -/
theorem inner_turns {hx : HX} {own1 : List Nat} {pt1 : Pt} {ifs1 : List E} {e : E} {env1 : Env} {σ2 : L2.St} {ρ0 : List Addr} {H0 : Hp} {D : Addr} {q1 q : Sq} {J1 : L2.It} {tm1 : Option Addr} {Nx : Hp → Prop} {P : List Addr → Store → Hp → Prop} (hxT : ∀ o σ, hx o σ) (hs1 : ∀ j ∈ slots pt1, j ∈ own1) (h0 : H0 D = none) (tD1 : tm1 ≠ some D)
    (hP : ∀ ρ st H ρ' st' H', P ρ st H → Rep γ ρ st H → Ext ρ H ρ' H' → q.stays st' = true → P ρ' st' H')
    (hP2 : ∀ ρ st H vs ws, P ρ st H → H D = some (.lst vs) → D ∉ ρ → P ρ st (upd H D (.lst ws)))
    {acc : List IV} {st1 : Store} {ρ1 : List Addr} {H1 : Hp} (l : Lay γ ρ0 H0 D ρ1 st1 acc H1) (j1 : JAt γ ρ1 st1 H1 J1 q1 tm1) (p1 : P ρ1 st1 H1) (Re1 : REnv γ hx ρ1 H1 { env1 with sl := wipeN env1.sl own1, lm := [] } (wipe σ2 own1))
    (hr : ∃ acc2 st2, compG (fun st => q1.stays st && q.stays st) { env1 with sl := wipeN env1.sl own1, lm := [] } (fun env x st => pat G me pt1 (.v x) env st) (fun env st => evIfs G me ifs1 env st) (fun env st => evE G me e env st) q1.xs acc st1 = .ok (.l acc2) st2 ∧
      ∀ ρ' H', Lay γ ρ0 H0 D ρ' st2 acc2 H' → P ρ' st2 H' → Nx H') :
    ∃ W1 : Nat → Nat → Hp → Prop, (∃ m, W1 0 m H1) ∧ ∀ j k H, W1 j k H →
      (J1.stop j H ∧ Nx H) ∨ (J1.go j H ∧ ∃ Nx1 : Hp → Prop, (∀ H', Nx1 H' → ∃ k', k' < k ∧ W1 (j + 1) k' H') ∧ ∀ x H', J1.yld j H x H' → tP γ hx (slots pt1) (fun x env st => pat G me pt1 x env st) x (wipe σ2 own1) H' fun σ3 H5 => wipe σ3 own1 = wipe σ2 own1 ∧ tIfs γ hx (evIfs G me ifs1) σ3 H5 fun b H6 =>
        if b = true then tI γ noW hx (evE G me e) σ3 H6 fun y H7 => ∃ acc, H7 D = some (.lst acc) ∧ acc.length < sizeLine ∧ Nx1 (upd H7 D (.lst (acc ++ [y]))) else Nx1 H6) := by
  obtain ⟨accE, stE, hrun, hend⟩ := hr
  obtain ⟨env0, he0⟩ : ∃ env0 : Env, env0 = { env1 with sl := wipeN env1.sl own1, lm := [] } := ⟨_, rfl⟩
  rw [← he0] at hrun Re1
  refine ⟨fun i m H' => m = q1.xs.length - i ∧ i ≤ q1.xs.length ∧ ∃ ρ2 st2 acc, Lay γ ρ0 H0 D ρ2 st2 acc H' ∧ JAt γ ρ2 st2 H' J1 q1 tm1 ∧ P ρ2 st2 H' ∧ REnv γ hx ρ2 H' env0 (wipe σ2 own1) ∧
    compG (fun st => q1.stays st && q.stays st) env0 (fun env x st => pat G me pt1 (.v x) env st) (fun env st => evIfs G me ifs1 env st) (fun env st => evE G me e env st) (q1.xs.drop i) acc st2 = .ok (.l accE) stE, ⟨q1.xs.length, by simp, Nat.zero_le _, ρ1, st1, acc, l, j1, p1, Re1, by simpa using hrun⟩, ?_⟩
  rintro i m H2 ⟨rfl, hi, ρ2, st2, acc2, l2, j2, p2, Re2, run2⟩
  by_cases hlt : i < q1.xs.length
  · refine .inr ?_
    have hx' : q1.xs[i]? = some q1.xs[i] := List.getElem?_eq_getElem hlt
    obtain ⟨g1, g2⟩ := j2.go l2.rep hx'
    have gd2 := compG_gd (by rw [run2]; exact fun z => by cases z)
    rw [List.drop_eq_getElem_cons hlt] at run2
    unfold compG at run2
    rw [if_pos gd2] at run2
    refine ⟨g1, fun H' => ∃ ρ3 st3 acc, Lay γ ρ0 H0 D ρ3 st3 acc H' ∧ JAt γ ρ3 st3 H' J1 q1 tm1 ∧ P ρ3 st3 H' ∧ REnv γ hx ρ3 H' env0 (wipe σ2 own1) ∧
      compG (fun st => q1.stays st && q.stays st) env0 (fun env x st => pat G me pt1 (.v x) env st) (fun env st => evIfs G me ifs1 env st) (fun env st => evE G me e env st) (q1.xs.drop (i + 1)) acc st3 = .ok (.l accE) stE, fun H' ⟨ρ3, st3, acc, z⟩ => ⟨q1.xs.length - (i + 1), by omega, rfl, hlt, ρ3, st3, acc, z⟩, fun y H' hy => ?_⟩
    obtain ⟨rfl, ry⟩ := g2 y H' hy
    refine ⟨ρ2, H', ρ2, env0, st2, .v q1.xs[i], hxT _ _, .refl ρ2 H', l2.rep, Re2, Re2.old, ry, (fun a ha => by simp [ownA] at ha), ?_⟩
    show AftP γ ρ2 H' (wipe σ2 own1) (slots pt1) hx (pat G me pt1 (.v q1.xs[i]) env0 st2) _
    cases hm3 : pat G me pt1 (.v q1.xs[i]) env0 st2 with
    | bad => rw [hm3] at run2; cases run2
    | exc _ _ => rw [hm3] at run2; cases run2
    | ok env3 st3 =>
      rw [hm3] at run2
      simp only [Res.quiet, Res.bind] at run2
      intro ρ3 H3 σ3 e3 R3 Re3 hh3 s3
      refine ⟨(wipe_same s3 hs1).trans wipe_wipe, ρ3, env3, st3, hh3, R3, Re3, ?_⟩
      cases hm4 : evIfs G me ifs1 env3 st3 with
      | bad => rw [hm4] at run2; cases run2
      | exc _ _ => rw [hm4] at run2; cases run2
      | ok b st4 =>
        rw [hm4] at run2
        simp only [Res.quiet, Res.bind] at run2
        intro ρ4 H4 e4 R4
        have e34 := e3.trans e4
        cases b with
        | false =>
          rw [if_neg Bool.false_ne_true] at run2
          have gd4 := compG_gd (by rw [run2]; exact fun z => by cases z)
          simp only [Bool.and_eq_true] at gd4
          exact iteF ⟨ρ4, st4, acc2, l2.step e34 R4, j2.mono l2.rep e34 gd4.1, hP _ _ _ _ _ _ p2 l2.rep e34 gd4.2, Re2.mono l2.rep e34, run2⟩
        | true =>
          rw [if_pos rfl] at run2
          refine iteT ⟨ρ4, env3, st4, hh3, R4, Re3.mono R3 e4, ?_⟩
          cases hm5 : evE G me e env3 st4 with
          | bad => rw [hm5] at run2; cases run2
          | exc _ _ => rw [hm5] at run2; cases run2
          | ok y st5 =>
            rw [hm5] at run2
            simp only [Res.quiet, Res.bind] at run2
            intro ρ5 H5 w e5 R5 T5 fr5
            cases hm6 : mat y st5 with
            | bad => rw [hm6] at run2; cases run2
            | exc _ _ => exact absurd hm6 mat_noexc
            | ok z st6 =>
              rw [hm6] at run2
              simp only [Res.bind] at run2
              have fr2 : ∀ a ∈ ownA y w, H' a = none := fun a ha => e34.back a (fr5 a ha)
              obtain ⟨vs, k1, k2, k3, k4, k5, k6⟩ := l2.put h0 (e34.trans e5) R5 T5 fr2 hm6
              split at run2
              · rename_i hlen
                have gd6 := compG_gd (by rw [run2]; exact fun z => by cases z)
                simp only [Bool.and_eq_true] at gd6
                refine ⟨vs, k1, by rw [k2, sizeLine_n]; exact hlen, ρ5 ++ ownA y w, st6, acc2 ++ [z], k6, (j2.mono l2.rep k3 gd6.1).but k1 k5 tD1, hP2 _ _ _ _ _ (hP _ _ _ _ _ _ p2 l2.rep k3 gd6.2) k1 k5, (Re2.mono l2.rep k3).alike (by rw [he0]) (alike_upd k1), run2⟩
              · cases run2
  · have ei : i = q1.xs.length := by omega
    subst ei
    rw [List.drop_length] at run2
    unfold compG at run2
    split at run2
    · cases run2
      exact .inl ⟨j2.stop l2.rep, hend ρ2 H2 l2 p2⟩
    · cases run2
theorem compF2_gd {q : Sq} {env : Env} {tgt : Env → IV → Store → Res Env} {ifs : Env → Store → Res Bool} {inner : Env → List IV → Store → Res TV} {xs acc : List IV} {st : Store} (h : compF2 q env tgt ifs inner xs acc st ≠ .bad) : q.stays st = true := by
  cases xs with
  | nil =>
    unfold compF2 at h
    split at h
    · assumption
    · exact absurd rfl h
  | cons x xs =>
    unfold compF2 at h
    split at h
    · assumption
    · exact absurd rfl h
theorem compF2_noexc {q : Sq} {env : Env} {tgt : Env → IV → Store → Res Env} {ifs : Env → Store → Res Bool} {inner : Env → List IV → Store → Res TV} : ∀ {xs acc : List IV} {st : Store}, (∃ a s, compF2 q env tgt ifs inner xs acc st = .ok (.l a) s) ∨ compF2 q env tgt ifs inner xs acc st = .bad
  | [], acc, st => by
    unfold compF2
    split
    · exact .inl ⟨_, _, rfl⟩
    · exact .inr rfl
  | x :: xs, acc, st => by
    unfold compF2
    split
    · cases tgt env x st with
      | ok e1 s1 =>
        simp only [Res.quiet, Res.bind]
        cases ifs e1 s1 with
        | ok b s2 =>
          simp only [Res.quiet, Res.bind]
          split
          · cases inner e1 acc s2 with
            | ok y s3 =>
              simp only [Res.quiet, Res.bind]
              cases y with
              | l a => exact compF2_noexc
              | _ => exact .inr rfl
            | exc _ _ => exact .inr rfl
            | bad => exact .inr rfl
          · exact compF2_noexc
        | exc _ _ => exact .inr rfl
        | bad => exact .inr rfl
      | exc _ _ => exact .inr rfl
      | bad => exact .inr rfl
    · exact .inr rfl
/-- what a comprehension of two clauses wants -/
theorem comp2_read {own own1 : List Nat} {pt pt1 : Pt} {it it1 : MP.It} {ifs ifs1 : List E} {e : E} {σ : L2.St} {H : Hp} {Q : VK} (hxT : ∀ o σ, hx o σ) (hs : ∀ j ∈ slots pt, j ∈ own) (hs1 : ∀ j ∈ slots pt1, j ∈ own1) (h : tI γ W hx (evE G me (.comp2 own own1 pt it ifs pt1 it1 ifs1 e)) σ H Q) :
    tLc2 (tIt γ W hx (evIt G me it)) (tP γ hx (slots pt) (fun x env st => pat G me pt x env st)) (tIfs γ hx (evIfs G me ifs)) (tIt γ noW hx (evIt G me it1)) (tP γ hx (slots pt1) (fun x env st => pat G me pt1 x env st)) (tIfs γ hx (evIfs G me ifs1)) (tI γ noW hx (evE G me e)) own own1 σ H Q := by
  obtain ⟨ρ, env, st, hh, R, Re, A⟩ := h
  simp only [evE] at A
  refine ⟨ρ, env, st, hh, R, Re, ?_⟩
  cases hm : evIt G me it env st with
  | bad => rw [hm] at A; exact A
  | exc _ _ => rw [hm] at A; exact A
  | ok q st1 =>
    rw [hm] at A
    intro ρ1 H1 J tm e1 R1 j1 tmn D hD
    have nD1 : D ∉ ρ1 := fun z => R1.tracked z hD
    have tD : tm ≠ some D := fun z => (tmn D z).1 hD
    have hD0 : H D = none := e1.back D hD
    obtain ⟨env0, he0⟩ : ∃ env0 : Env, env0 = { env with sl := wipeN env.sl own, lm := [] } := ⟨_, rfl⟩
    obtain ⟨inner, hin⟩ : ∃ inner : Env → List IV → Store → Res TV, inner = fun env acc st => (evIt G me it1 env st).bind fun q1 st => compG (fun st => q1.stays st && q.stays st) { env with sl := wipeN env.sl own1, lm := [] } (fun env x st => pat G me pt1 (.v x) env st) (fun env st => evIfs G me ifs1 env st) (fun env st => evE G me e env st) q1.xs acc st := ⟨_, rfl⟩
    have hinE : ∀ env acc st, inner env acc st = (evIt G me it1 env st).bind fun q1 st => compG (fun st => q1.stays st && q.stays st) { env with sl := wipeN env.sl own1, lm := [] } (fun env x st => pat G me pt1 (.v x) env st) (fun env st => evIfs G me ifs1 env st) (fun env st => evE G me e env st) q1.xs acc st := fun _ _ _ => by rw [hin]
    have A : Aft γ ρ H (compF2 q env0 (fun env x st => pat G me pt (.v x) env st) (fun env st => evIfs G me ifs env st) inner q.xs [] st1) Q (fun cls d H' => W cls d σ H') := by rw [he0, hin]; exact A
    rcases compF2_noexc (q := q) (env := env0) (tgt := fun env x st => pat G me pt (.v x) env st) (ifs := fun env st => evIfs G me ifs env st) (inner := inner) (xs := q.xs) (acc := []) (st := st1) with ⟨accE, stE, run1⟩ | bad
    case inr => rw [bad] at A; exact A.elim
    rw [run1] at A
    refine ⟨fun i m H' => m = q.xs.length - i ∧ i ≤ q.xs.length ∧ ∃ ρ2 st2 acc, Lay γ ρ H D ρ2 st2 acc H' ∧ JAt γ ρ2 st2 H' J q tm ∧ REnv γ hx ρ2 H' env0 (wipe σ own) ∧
      compF2 q env0 (fun env x st => pat G me pt (.v x) env st) (fun env st => evIfs G me ifs env st) inner (q.xs.drop i) acc st2 = .ok (.l accE) stE, ⟨q.xs.length, by simp, Nat.zero_le _, ρ1, st1, [], ?_⟩, ?_⟩
    · have l : Ext ρ1 H1 ρ1 (upd H1 D (.lst [])) := Ext.laid hD
      have hst := compF2_gd (by rw [run1]; exact fun z => by cases z)
      refine ⟨⟨e1.trans l, R1.laid hD, nD1, [], upd_same, by simp [RepVs]⟩, j1.mono R1 l hst, ?_, by simpa using run1⟩
      rw [he0]
      exact ((Re.mono R e1).mono R1 l).wipe own
    · rintro i m H2 ⟨rfl, hi, ρ2, st2, acc, l2, j2, Re2, run2⟩
      by_cases hlt : i < q.xs.length
      · refine .inr ?_
        have hx' : q.xs[i]? = some q.xs[i] := List.getElem?_eq_getElem hlt
        obtain ⟨g1, g2⟩ := j2.go l2.rep hx'
        have gd2 := compF2_gd (by rw [run2]; exact fun z => by cases z)
        rw [List.drop_eq_getElem_cons hlt] at run2
        unfold compF2 at run2
        rw [if_pos gd2] at run2
        refine ⟨g1, fun H' => ∃ ρ3 st3 acc, Lay γ ρ H D ρ3 st3 acc H' ∧ (q.stays st3 = true → JAt γ ρ3 st3 H' J q tm) ∧ REnv γ hx ρ3 H' env0 (wipe σ own) ∧
          compF2 q env0 (fun env x st => pat G me pt (.v x) env st) (fun env st => evIfs G me ifs env st) inner (q.xs.drop (i + 1)) acc st3 = .ok (.l accE) stE, fun H' z => ?_, fun y H' hy => ?_⟩
        · obtain ⟨ρ3, st3, acc, z1, z2, z3, z4⟩ := z
          exact ⟨q.xs.length - (i + 1), by omega, rfl, hlt, ρ3, st3, acc, z1, z2 (compF2_gd (by rw [z4]; exact fun z => by cases z)), z3, z4⟩
        · obtain ⟨rfl, ry⟩ := g2 y H' hy
          refine ⟨ρ2, H', ρ2, env0, st2, .v q.xs[i], hxT _ _, .refl ρ2 H', l2.rep, Re2, Re2.old, ry, (fun a ha => by simp [ownA] at ha), ?_⟩
          show AftP γ ρ2 H' (wipe σ own) (slots pt) hx (pat G me pt (.v q.xs[i]) env0 st2) _
          cases hm3 : pat G me pt (.v q.xs[i]) env0 st2 with
          | bad => rw [hm3] at run2; cases run2
          | exc _ _ => rw [hm3] at run2; cases run2
          | ok env3 st3 =>
            rw [hm3] at run2
            simp only [Res.quiet, Res.bind] at run2
            intro ρ3 H3 σ3 e3 R3 Re3 hh3 s3
            refine ⟨(wipe_same s3 hs).trans wipe_wipe, ρ3, env3, st3, hh3, R3, Re3, ?_⟩
            cases hm4 : evIfs G me ifs env3 st3 with
            | bad => rw [hm4] at run2; cases run2
            | exc _ _ => rw [hm4] at run2; cases run2
            | ok b st4 =>
              rw [hm4] at run2
              simp only [Res.quiet, Res.bind] at run2
              intro ρ4 H4 e4 R4
              have e34 := e3.trans e4
              cases b with
              | false =>
                rw [if_neg Bool.false_ne_true] at run2
                exact iteF ⟨ρ4, st4, acc, l2.step e34 R4, fun hst => j2.mono l2.rep e34 hst, Re2.mono l2.rep e34, run2⟩
              | true =>
                rw [if_pos rfl] at run2
                refine iteT ⟨ρ4, env3, st4, hh3, R4, Re3.mono R3 e4, ?_⟩
                rw [hinE] at run2
                cases hm5 : evIt G me it1 env3 st4 with
                | bad => rw [hm5] at run2; cases run2
                | exc _ _ => rw [hm5] at run2; cases run2
                | ok q1 st5 =>
                  rw [hm5] at run2
                  simp only [Res.bind] at run2
                  intro ρ5 H5 J1 tm1 e5 R5 j5 tmn5
                  have e345 := e34.trans e5
                  have l5 := l2.step e345 R5
                  have nD4 : D ∉ ρ4 := (l2.step e34 R4).out
                  have tD1 : tm1 ≠ some D := fun z => by
                    have := (tmn5 D z).2
                    obtain ⟨vs4, h4, -⟩ := (l2.step e34 R4).row
                    rw [h4] at this; cases this
                  cases hr : compG (fun st => q1.stays st && q.stays st) { env3 with sl := wipeN env3.sl own1, lm := [] } (fun env x st => pat G me pt1 (.v x) env st) (fun env st => evIfs G me ifs1 env st) (fun env st => evE G me e env st) q1.xs acc st5 with
                  | bad => rw [hr] at run2; cases run2
                  | exc _ _ => rw [hr] at run2; cases run2
                  | ok y st6 =>
                    rw [hr] at run2
                    simp only [Res.quiet, Res.bind] at run2
                    cases y with
                    | l acc6 =>
                      have gd5 := compG_gd (by rw [hr]; exact fun z => by cases z)
                      simp only [Bool.and_eq_true] at gd5
                      refine inner_turns (q := q) (P := fun ρ st H => JAt γ ρ st H J q tm ∧ REnv γ hx ρ H env0 (wipe σ own)) hxT hs1 hD0 tD1 (fun ρa sta Ha ρb stb Hb p Ra ea hst => ⟨p.1.mono Ra ea hst, p.2.mono Ra ea⟩) (fun ρa sta Ha vs ws p hDa nDa => ⟨p.1.but hDa nDa tD, p.2.alike (by rw [he0]) (alike_upd hDa)⟩)
                        l5 j5 ⟨j2.mono l2.rep e345 gd5.2, Re2.mono l2.rep e345⟩ (((Re3.mono R3 e4).mono R4 e5).wipe own1) ⟨acc6, st6, hr, fun ρ' H' l' p' => ?_⟩
                      exact ⟨ρ', st6, acc6, l', fun _ => p'.1, p'.2, run2⟩
                    | _ => cases run2
      · have ei : i = q.xs.length := by omega
        subst ei
        refine .inl ⟨j2.stop l2.rep, ?_⟩
        rw [List.drop_length] at run2
        unfold compF2 at run2
        split at run2
        · cases run2
          obtain ⟨vs, k1, k2⟩ := l2.row
          exact A ρ2 H2 _ l2.ext l2.rep ⟨D, vs, rfl, k1, l2.out, k2⟩ (fun a ha => by simp only [ownA, List.mem_singleton] at ha; rw [ha]; exact hD0)
        · cases run2
end
end MP

set_option linter.all false
set_option autoImplicit false
set_option Elab.async false
set_option maxRecDepth 100000
namespace MP
open PySem L2 PySem.Spec PyProof.Rows
/-! ### dict([(key, x), ..]), the keys tuples -/
section
variable {X : Cx} {γ : Gm} {sc : Sc} {W : WX} {G : Orc} {me : FnDef} {hx : HX}
abbrev KE3 := List L2.Key × Addr × V
def mkT (es : List KE3) (acc : List (List L2.Key × V)) : List (List L2.Key × V) := es.foldl (fun acc e => putK acc e.1 e.2.2) acc
theorem mkT_len : ∀ (es : List KE3) (acc : List (List L2.Key × V)), (mkT es acc).length ≤ acc.length + es.length
  | [], acc => by simp [mkT]
  | e :: es, acc => by
    have h1 := mkT_len es (putK acc e.1 e.2.2)
    have h2 := length_putK acc e.1 e.2.2
    simp only [mkT, List.foldl_cons, List.length_cons] at h1 ⊢
    omega
/-- what the pairs' tuples hold in the machine -/
theorem pairs_in {pins : List (Addr × Obj)} {σ : L2.St} {H : Hp} {s : Shared} (I : Inv X pins σ H s) : ∀ {ps : List Addr} {es : List KE3}, Paired (fun p e => SqT X.K H p [.ref e.2.1, e.2.2] ∧ H e.2.1 = some (.tup (e.1.map kV))) ps es →
    ∃ zs : List (List L2.Key × Addr × Value), zs.length = ps.length ∧ (∀ x ∈ zs, ∃ kk : List L2.Key, x.1 = kk ∧ H x.2.1 = some (.tup (kk.map kV))) ∧
      (∀ acc xs, KT H acc xs → KT H (mkT es acc) (storedAllH xs zs)) ∧ ∀ (j : Nat) x, zs[j]? = some x → ∃ p, ps[j]? = some p ∧ s.heap.IsTuple p #[.ref x.2.1, x.2.2]
  | _, _, .nil => ⟨[], rfl, (fun x hx => by cases hx), (fun acc xs r => r), fun j x e => by simp at e⟩
  | _, _, .cons (a := p) (b := e) h t => by
    obtain ⟨zs, q1, q2, q3, q4⟩ := pairs_in I t
    obtain ⟨hp, ht⟩ := h
    obtain ⟨its, rv, tup, -⟩ := I.tuple hp
    obtain ⟨u, y, rfl, ru, ry⟩ := vals2 rv
    cases (show u = Value.ref e.2.1 from ru)
    refine ⟨(e.1, e.2.1, y) :: zs, by simp [q1], fun x hx => ?_, fun acc xs r => ?_, fun j x ex => ?_⟩
    · rcases List.mem_cons.mp hx with rfl | hx
      · exact ⟨_, rfl, ht⟩
      · exact q2 x hx
    · exact q3 _ _ (r.put e.1 ht ry)
    · cases j with
      | zero =>
        cases Option.some.inj ex
        obtain ⟨o, ho, hc, n, hd⟩ := tup
        exact ⟨p, rfl, o, ho, hc, n, hd⟩
      | succ j =>
        obtain ⟨p', e1, e2⟩ := q4 j x (by simpa using ex)
        exact ⟨p', by simpa using e1, e2⟩
theorem cr_dictT (hc : X.calm = true) (hu : X.A.units + 100 < cLine) : CallR X (.type "dict") (fun xs H Q => ∃ (a : Addr) (ps : List Addr) (es : List KE3), xs = [.ref a] ∧ SqL X.K H a (ps.map V.ref) ∧
    Paired (fun p e => SqT X.K H p [.ref e.2.1, e.2.2] ∧ H e.2.1 = some (.tup (e.1.map kV))) ps es ∧ ∀ q, H q = none → Q (.ref q) (upd H q (.dT (mkT es [])))) := by
  intro pins s σ H xs us Q I r h
  obtain ⟨a, ps, es, rfl, hq, hp, q⟩ := h
  obtain ⟨u, rfl, ru⟩ := r.one
  cases ru
  obtain ⟨its, rv, pl, hz⟩ := I.list hq
  have ei := refs_at rv
  subst ei
  rw [List.length_map] at hz
  obtain ⟨zs, z1, z2, z3, z4⟩ := pairs_in I hp
  obtain ⟨o, n, ho, hcl, hd, hdat⟩ := pl
  have hpl : ps.length = es.length := Paired.length hp
  have P := PairArg.list (prog := X.prog) (w := X.w) a (ps.map Value.ref).toArray (fun j => ps.getD j 0) (zs.map fun x => (Value.ref x.2.1, x.2.2))
  have items : PairItems s.heap (ps.map Value.ref).toArray (fun j => ps.getD j 0) (zs.map fun x => (Value.ref x.2.1, x.2.2)) := by
    refine ⟨by simp [z1], fun j k v e => ?_⟩
    rw [List.getElem?_map, Option.map_eq_some_iff] at e
    obtain ⟨x, e1, e2⟩ := e
    cases e2
    obtain ⟨p, p1, p2⟩ := z4 j x e1
    refine ⟨by simp [p1], .inl ?_⟩
    have : ps.getD j 0 = p := by simp [List.getD, p1]
    simp only [this]
    exact p2
  refine PySem.call_dict_pairsH (knd := tupleKind (mixKind X.prog X.w)) (ps := zs) P (I.ok.hd hc) (show X.A.units + 1 + 1 < cLine by omega) ⟨⟨o, n, ho, hcl, hd, hdat⟩, items⟩ ⟨by simp, fun i key v e => ?_⟩ (fun h' hk x hx => ?_) (by simp only [List.length_map, z1]; exact hz) fun h' tk hd' hk => ?_
  · have e' : (zs.map fun x => (Value.ref x.2.1, x.2.2))[i]? = some (key, v) := e
    rw [List.getElem?_map, Option.map_eq_some_iff] at e'
    obtain ⟨x, e1, e2⟩ := e'
    cases e2
    exact ⟨x.1, x.2.1, e1, rfl⟩
  · obtain ⟨kk, rfl, ht⟩ := z2 x hx
    obtain ⟨o, its, n, h1, h2, h3, h4⟩ := key_of I.hok ht
    exact ⟨o, its, n, hk _ _ (fun z => absurd (Heap.lt_size h1) (by rw [z]; exact Nat.lt_irrefl _)) (by simp) h1, h2, h3, h4⟩
  · have hp0 : H s.heap.objs.size = none := I.hok.fresh (Nat.le_refl _)
    have hm : (s.heap.objs.size == sysModules) = false := beq_eq_false_iff_ne.mpr (Nat.ne_of_gt I.big)
    obtain ⟨o', es', ep', w1, w2, w3, w4, -, w6⟩ := hd'
    have kt : KT H (mkT es []) (storedAllH [] zs) := z3 [] [] .nil
    refine ⟨.ref s.heap.objs.size, upd H s.heap.objs.size (.dT (mkT es [])), I.laid (t' := tk) (fun b ob e => hk b ob (by simp) e) (Nat.le_refl _) ⟨?_, hm, storedAllH [] zs, ?_, o', es', ep', w1, w2, w3, w4, w6⟩, rfl, q _ hp0⟩
    · refine Nat.le_trans (mkT_len es []) ?_
      rw [List.length_nil, Nat.zero_add, ← hpl]
      exact hz
    · exact kt.keeps fun b ys e => by rw [upd_ne (ne_of_none e hp0)]; exact e
theorem kFold_rep {ρ : List Addr} {H : Hp} : ∀ {ps : List (List IV × IV)} {es : List KE3} {acc : List (IV × IV)} {ka : List (List L2.Key × V)}, Paired (fun p e => keysOf p.1 = some e.1 ∧ RepV γ ρ H p.2 e.2.2) ps es → RepD γ ρ H acc ka → RepD γ ρ H (kFold ps acc) (mkT es ka)
  | [], [], _, _, .nil, r => r
  | _ :: ps, _ :: es, _, _, .cons h t, r => kFold_rep (ps := ps) (es := es) t (kPut_rep h.1 h.2 r)
theorem kPairs_rep {ρ : List Addr} {H : Hp} : ∀ {xs : List IV} {vs : List V} {ps : List (List IV × IV)}, kPairs xs = some ps → RepVs γ ρ H xs vs →
    ∃ (as : List Addr) (es : List KE3), vs = as.map V.ref ∧ Paired (fun p e => SqT γ.K H p [.ref e.2.1, e.2.2] ∧ H e.2.1 = some (.tup (e.1.map kV))) as es ∧ Paired (fun p e => keysOf p.1 = some e.1 ∧ RepV γ ρ H p.2 e.2.2) ps es
  | [], vs, ps, h, r => by
    simp only [kPairs, Option.some.injEq] at h
    subst h
    simp only [RepVs] at r
    subst r
    exact ⟨[], [], rfl, .nil, .nil⟩
  | x :: xs, vs, ps, h, r => by
    unfold kPairs at h
    split at h
    · rename_i h0; cases h0
    · rename_i k v r0 h0
      cases h0
      split at h
      case isFalse => cases h
      rename_i kt
      obtain ⟨ps', hh, rfl⟩ := Option.map_eq_some_iff.mp h
      simp only [RepVs] at r
      obtain ⟨w, ws, rfl, r1, r2⟩ := r
      obtain ⟨as, es, rfl, p1, p2⟩ := kPairs_rep hh r2
      simp only [RepV, RepVs] at r1
      obtain ⟨a, us, rfl, t1, u1, us1, rfl, k1, u2, us2, rfl, k2, rfl⟩ := r1
      obtain ⟨b, kk, rfl, hb, ek⟩ := keyT_at kt (by simp only [RepV]; exact k1)
      exact ⟨a :: as, (kk, b, u2) :: es, rfl, .cons ⟨t1.sq, hb⟩ p1, .cons ⟨ek, k2⟩ p2⟩
    · cases h
theorem s_dmk {a : E} {o : Expr} {p pos : Pos} (g : Good γ X sc W) (hcm : sc.calm = true) (hg : globB sc "dict" = true) (hn : notStar o = true) (ha : PE X o (tI γ W hx (evE G me a))) :
    PE X (.Call (.Name "dict" p) [o] [] pos) (tI γ W hx (evE G me (.dmk a))) := by
  obtain ⟨q1, q2, q3⟩ := g.gl hg
  refine PE.imp (pe_callTy (p := p) (pos := pos) (cr_dictT (g.calm hcm) g.hu) q1 (g.free "dict" (by decide +kernel)) (by decide +kernel) (pa_cons ha pa_nil (star_one hn _ _)) q3 q2 (star_one hn _ _) rfl) fun σ H Q q => ?_
  obtain ⟨ρ, env, st, hh, R, Re, A⟩ := q
  simp only [evE] at A
  refine ⟨ρ, env, st, hh, R, Re, A.bind.imp ?_⟩
  rintro va H1 ⟨ρ1, st1, x, e1, R1, T1, -, A1⟩
  have A1 := A1.ext e1
  unfold dmkM at A1
  cases hp : (itemsM st1 x).bind kPairs with
  | none => simp only [hp] at A1; exact A1.elim
  | some ps =>
    simp only [hp] at A1
    split at A1
    case isFalse => exact A1.elim
    obtain ⟨xs, i1, i2⟩ := Option.bind_eq_some_iff.mp hp
    obtain ⟨b, vs, rfl, h1, h2⟩ := itemsM_at R1 T1 i1
    obtain ⟨as, es, rfl, p1, p2⟩ := kPairs_rep i2 h2
    refine ⟨b, as, es, rfl, by rw [g.hK]; exact SqL.of h1, by rw [g.hK]; exact p1, fun q hq => ?_⟩
    obtain ⟨R2, e2, r2⟩ := R1.push (o := .dic (kFold ps [])) (u := .dT (mkT es [])) hq ⟨_, upd_same, (kFold_rep p2 (by simp [RepD] : RepD γ ρ1 H1 [] [])).mono R1 (Ext.laid hq)⟩
    exact A1 _ _ _ e2 R2 r2 (fun a ha => by simp [ownA] at ha)
end
end MP

set_option linter.all false
set_option autoImplicit false
set_option Elab.async false
set_option maxRecDepth 100000
set_option maxHeartbeats 4000000
namespace MP
open PySem L2

/-- the nodes that a frame must speak for -/
def isHn : E → Bool
  | .hIs _ _ => true
  | .hFld _ _ => true
  | .act => true
  | .wlit _ => true
  | _ => false
structure Hnd (γ : Gm) (X : Cx) (sc : Sc) (G : Orc) (me : FnDef) (hx : HX) (W : WX) : Prop where
  one : ∀ e a, isHn e = true → chkE sc me e a = true → PE X a (tI γ W hx (evE G me e))
  wat : ∀ (i : Nat) (e : E) (x y : Str) (r : Expr) (p p1 p2 pos : Pos), chkE sc me (.wat i e) (.Call (.Name x p) [.Subscript (.Name y p1) r p2] [] pos) = true → PE X r (tI γ W hx (evE G me e)) →
    PE X (.Call (.Name x p) [.Subscript (.Name y p1) r p2] [] pos) (tI γ W hx (evE G me (.wat i e)))
theorem Hnd.none {γ : Gm} {X : Cx} {sc : Sc} {G : Orc} {me : FnDef} {hx : HX} {W : WX} (h : sc.hn = Option.none) (h1 : sc.actN = Option.none) (h3 : sc.lamA = []) : Hnd γ X sc G me hx W := ⟨fun e a q1 q2 => by
  cases e <;> simp [isHn] at q1
  · (simp only [chkE] at q2; first | unfold hIsB at q2 | unfold hFldB at q2 | unfold actB at q2 | unfold wlitB at q2) <;> split at q2 <;> simp_all
  · (simp only [chkE] at q2; first | unfold hIsB at q2 | unfold hFldB at q2 | unfold actB at q2 | unfold wlitB at q2) <;> split at q2 <;> simp_all
  · (simp only [chkE] at q2; first | unfold hIsB at q2 | unfold hFldB at q2 | unfold actB at q2 | unfold wlitB at q2) <;> split at q2 <;> simp_all
  · (simp only [chkE] at q2; first | unfold hIsB at q2 | unfold hFldB at q2 | unfold actB at q2 | unfold wlitB at q2) <;> split at q2 <;> simp_all, fun i e x y r p p1 p2 pos q => by
  simp only [chkE, h3, List.isEmpty_nil, Bool.not_true, Bool.false_and, Bool.false_eq_true] at q⟩
/-- in a block -/
theorem Good.blk {γ : Gm} {X : Cx} {sc : Sc} {W : WX} (g : Good γ X sc W) {scope : Scope} (hk : scope.kind = .function) (s : Shared) (H : Hp) (C : Addr) (cl : List (Str × Addr)) (fp : List Addr) :
    Good γ (X.blk s H scope (compEnvC scope cl C X.env) fp) (sc.blk scope) noW where
  hK := g.hK
  calm := g.calm
  hu := g.hu
  dp := g.dp
  hN := g.hN
  nd := g.nd
  nm := by
    show relabel scope X.env = relS scope sc.scope
    rw [← g.nm]; rfl
  kd := hk
  tk := takes0
  free := g.free
  st := fun x hx => by
    unfold locB Sc.blk at hx
    simp only at hx
    have hsc : (X.blk s H scope (compEnvC scope cl C X.env) fp).env.scope.names = (relS scope X.env.scope).names := rfl
    split at hx
    · rename_i e
      have := lookup_relS_keep (sc := X.env.scope) (names := scope.names) (x := x) (k := .local) (by decide) e
      exact ⟨.inl this, .inr this⟩
    · rename_i e
      have := lookup_relS_keep (sc := X.env.scope) (names := scope.names) (x := x) (k := .cell) (by decide) e
      refine ⟨.inr this, .inl ?_⟩
      show (scope.names.lookup x == some NameKind.cell) = true
      rw [e]; rfl
    · cases hx
theorem Good.noW {γ : Gm} {X : Cx} {sc : Sc} {W : WX} (g : Good γ X sc W) : Good γ X sc noW := ⟨g.hK, g.calm, g.hu, g.dp, g.hN, g.nd, g.nm, g.kd, g.st, takes0, g.free⟩
theorem set_plain {e : Expr} (h : notSet e = true) (env : PySem.Env) (x : Value) : foldedSetIterable e env x = pure x := by
  cases e <;> first | rfl | simp [notSet] at h
theorem tB_of {γ : Gm} {X : Cx} {W : WX} {hx : HX} {G : Orc} {me : FnDef} {e : E} {a : Expr} (h : PE X a (tI γ W hx (evE G me e))) (he : ∀ whole, isTrue a X.env whole = (do let v ← whole; standAt a.pos; holding [v] (truthy v))) :
    PE X a (tI γ W hx (evE G me e)) ∧ PT X a (tB (tI γ W hx (evE G me e))) := ⟨h, pt_val h he⟩

theorem chkEs_len {sc : Sc} {me : FnDef} : ∀ {es : List E} {as : List Expr}, chkEs sc me es as = true → es.length = as.length
  | [], [], _ => rfl
  | [], _ :: _, h => by simp [chkEs] at h
  | _ :: _, [], h => by simp [chkEs] at h
  | e :: es, a :: as, h => by
    simp only [chkEs, Bool.and_eq_true] at h
    rw [List.length_cons, List.length_cons, chkEs_len h.2]
theorem ifs_few {γ : Gm} {X : Cx} {hx : HX} {G : Orc} {me : FnDef} {ifs : List E} {is : List Expr} (h : ifs.length ≤ 1) (k : AllE γ X noW hx G me ifs is) : PTs X is (tIfs γ hx (evIfs G me ifs)) := by
  rcases ifs with _ | ⟨i1, _ | ⟨i2, ifs⟩⟩
  · cases k; exact ifs_nil
  · cases k with
    | cons q1 q2 q3 => cases q3; exact ifs_one q2
  · simp at h
section
variable {γ : Gm} {G : Orc} {me : FnDef}
mutual
theorem sndE : ∀ (e : E) (a : Expr) {X : Cx} {sc : Sc} {W : WX} {hx : HX}, Good γ X sc W → Hnd γ X sc G me hx W → (sc.calm = true → ∀ o σ, hx o σ) → chkE sc me e a = true → calE (CallX γ X G) (GcOk γ X.mg) me e →
    PE X a (tI γ W hx (evE G me e)) ∧ PT X a (tB (tI γ W hx (evE G me e)))
  | .v i, a, X, sc, W, hx, g, hn, hT, h, c => by
    cases a with
    | Name x pos =>
      exact tB_of (s_var g h) (by intro _; rfl)
    | _ => simp [chkE] at h
  | .c x, a, X, sc, W, hx, g, hn, hT, h, c => by
    cases a with
    | Constant k j pos =>
      simp only [chkE] at h; exact tB_of (s_con h) (by intro _; rfl)
    | _ => simp [chkE] at h
  | .g nm x, a, X, sc, W, hx, g, hn, hT, h, c => by
    cases a with
    | Name y pos =>
      simp only [chkE, Bool.and_eq_true, decide_eq_true_eq] at h
      obtain ⟨h1, h2⟩ := h
      subst h1
      exact tB_of (s_glob g h2 c) (by intro _; rfl)
    | _ => simp [chkE] at h
  | .nob, a, X, sc, W, hx, g, hn, hT, h, c => by
    simp [chkE] at h
  | .tup es, a, X, sc, W, hx, g, hn, hT, h, c => by
    cases a with
    | Tuple as k pos =>
      simp only [chkE] at h; exact tB_of (s_tup (sndEs es as g hn hT h c) (chkEs_star h)) (by intro _; rfl)
    | _ => simp [chkE] at h
  | .lst es, a, X, sc, W, hx, g, hn, hT, h, c => by
    cases a with
    | List as pos =>
      simp only [chkE] at h; exact tB_of (s_lst (sndEs es as g hn hT h c) (chkEs_star h)) (by intro _; rfl)
    | _ => simp [chkE] at h
  | .dic _ _, a, X, sc, W, hx, g, hn, hT, h, c => by
    simp [chkE] at h
  | .bin op x y, a, X, sc, W, hx, g, hn, hT, h, c => by
    cases a with
    | BinOp l o r pos =>
      simp only [chkE, Bool.and_eq_true, decide_eq_true_eq] at h
      obtain ⟨⟨h1, h2⟩, h3⟩ := h
      subst h1
      exact tB_of (s_bin g (sndE x l g hn hT h2 c.1).1 (sndE y r g hn hT h3 c.2).1) (by intro _; rfl)
    | _ => simp [chkE] at h
  | .neg x, a, X, sc, W, hx, g, hn, hT, h, c => by
    cases a with
    | UnaryOp o l pos =>
      cases o <;> first | (simp [chkE] at h; done) | skip
      simp only [chkE] at h
      exact tB_of (s_neg (sndE x l g hn hT h c).1) (by intro _; rfl)
    | _ => simp [chkE] at h
  | .cmp op x y, a, X, sc, W, hx, g, hn, hT, h, c => by
    cases a with
    | Compare l ops rs pos =>
      rcases ops with _ | ⟨o, _ | ⟨p2, _ | ⟨p3, ops⟩⟩⟩ <;> rcases rs with _ | ⟨r, _ | ⟨r2, _ | ⟨r3, rs⟩⟩⟩ <;> first | (simp [chkE] at h; done) | skip
      simp only [chkE, Bool.and_eq_true, decide_eq_true_eq, Bool.not_eq_true'] at h
      obtain ⟨⟨⟨h1, h2⟩, h3⟩, h4⟩ := h
      subst h1
      exact ⟨s_cmp g h2 (sndE x l g hn hT h3 c.1).1 (sndE y r g hn hT h4 c.2).1, s_cmpT g h2 (sndE x l g hn hT h3 c.1).1 (sndE y r g hn hT h4 c.2).1⟩
    | _ => simp [chkE] at h
  | .chain o1 o2 x y z, a, X, sc, W, hx, g, hn, hT, h, c => by
    cases a with
    | Compare l ops rs pos =>
      rcases ops with _ | ⟨o, _ | ⟨p2, _ | ⟨p3, ops⟩⟩⟩ <;> rcases rs with _ | ⟨r, _ | ⟨r2, _ | ⟨r3, rs⟩⟩⟩ <;> first | (simp [chkE] at h; done) | skip
      simp only [chkE, Bool.and_eq_true, decide_eq_true_eq, Bool.not_eq_true'] at h
      obtain ⟨⟨⟨⟨⟨h1, h2⟩, h3⟩, h4⟩, h5⟩, h6⟩ := h
      subst h1 h2
      have hm : lastMarks [cAST o1, cAST o2] [r, r2] = false := by simpa [lastMarks] using h3
      have k1 := (sndE x l g hn hT h4 c.1).1
      have k2 := (sndE y r g hn hT h5 c.2.1).1
      have k3 := (sndE z r2 g hn hT h6 c.2.2).1
      exact ⟨PE.imp (pe_chain (opr_cmp g.hK g.hu o1) (opr_cmp g.hK g.hu o2) k1 k2 k3 hm) fun σ H Q q => chain_step q, PT.imp (pt_chain (opr_cmp g.hK g.hu o1) (opr_cmp g.hK g.hu o2) k1 k2 k3 hm) fun σ H Q q => chain_step q⟩
    | _ => simp [chkE] at h
  | .isN x, a, X, sc, W, hx, g, hn, hT, h, c => by
    cases a with
    | Compare l ops rs pos =>
      rcases ops with _ | ⟨o, _ | ⟨p2, _ | ⟨p3, ops⟩⟩⟩ <;> rcases rs with _ | ⟨r, _ | ⟨r2, _ | ⟨r3, rs⟩⟩⟩ <;> first | (simp [chkE] at h; done) | skip
      cases o <;> first | (simp [chkE] at h; done) | skip
      cases r <;> first | (simp [chkE] at h; done) | skip
      rename_i k j p
      cases k <;> first | (simp [chkE] at h; done) | skip
      simp only [chkE] at h
      have q := s_isN (p := p) (j := j) (pos := pos) (sndE x l g hn hT h c).1
      exact ⟨pe_cmp q rfl, pt_cmp q rfl⟩
    | _ => simp [chkE] at h
  | .notN x, a, X, sc, W, hx, g, hn, hT, h, c => by
    cases a with
    | Compare l ops rs pos =>
      rcases ops with _ | ⟨o, _ | ⟨p2, _ | ⟨p3, ops⟩⟩⟩ <;> rcases rs with _ | ⟨r, _ | ⟨r2, _ | ⟨r3, rs⟩⟩⟩ <;> first | (simp [chkE] at h; done) | skip
      cases o <;> first | (simp [chkE] at h; done) | skip
      cases r <;> first | (simp [chkE] at h; done) | skip
      rename_i k j p
      cases k <;> first | (simp [chkE] at h; done) | skip
      simp only [chkE] at h
      have q := s_notN (p := p) (j := j) (pos := pos) (sndE x l g hn hT h c).1
      exact ⟨pe_cmp q rfl, pt_cmp q rfl⟩
    | _ => simp [chkE] at h
  | .isB true b x, a, X, sc, W, hx, g, hn, hT, h, c => by
    cases a with
    | Compare l ops rs pos =>
      rcases ops with _ | ⟨o, _ | ⟨p2, _ | ⟨p3, ops⟩⟩⟩ <;> rcases rs with _ | ⟨r, _ | ⟨r2, _ | ⟨r3, rs⟩⟩⟩ <;> first | (simp [chkE] at h; done) | skip
      cases o <;> first | (simp [chkE] at h; done) | skip
      cases r <;> first | (simp [chkE] at h; done) | skip
      rename_i k j p
      cases k <;> first | (simp [chkE] at h; done) | skip
      simp only [chkE, Bool.and_eq_true, decide_eq_true_eq] at h
      obtain ⟨h1, h2⟩ := h
      subst h1
      exact s_isB (sndE x l g hn hT h2 c).1
    | _ => simp [chkE] at h
  | .isB false b x, a, X, sc, W, hx, g, hn, hT, h, c => by
    cases a with
    | Compare l ops rs pos =>
      rcases ops with _ | ⟨o, _ | ⟨p2, _ | ⟨p3, ops⟩⟩⟩ <;> rcases rs with _ | ⟨r, _ | ⟨r2, _ | ⟨r3, rs⟩⟩⟩ <;> first | (simp [chkE] at h; done) | skip
      cases o <;> first | (simp [chkE] at h; done) | skip
      cases r <;> first | (simp [chkE] at h; done) | skip
      rename_i k j p
      cases k <;> first | (simp [chkE] at h; done) | skip
      simp only [chkE, Bool.and_eq_true, decide_eq_true_eq] at h
      obtain ⟨h1, h2⟩ := h
      subst h1
      exact s_notB (sndE x l g hn hT h2 c).1
    | _ => simp [chkE] at h
  | .chain3 o1 o2 o3 x y z u, a, X, sc, W, hx, g, hn, hT, h, c => by
    cases a with
    | Compare l ops rs pos =>
      rcases ops with _ | ⟨p1, _ | ⟨p2, _ | ⟨p3, _ | ⟨p4, ops⟩⟩⟩⟩ <;> rcases rs with _ | ⟨m, _ | ⟨n, _ | ⟨r, _ | ⟨r4, rs⟩⟩⟩⟩ <;> first | (simp [chkE] at h; done) | skip
      simp only [chkE, Bool.and_eq_true, decide_eq_true_eq, Bool.not_eq_true'] at h
      obtain ⟨⟨⟨⟨⟨⟨⟨h1, h2⟩, h3⟩, h4⟩, h5⟩, h6⟩, h7⟩, h8⟩ := h
      subst h1 h2 h3
      have hm : lastMarks [cAST o1, cAST o2, cAST o3] [m, n, r] = false := by simpa [lastMarks] using h4
      have k1 := (sndE x l g hn hT h5 c.1).1
      have k2 := (sndE y m g hn hT h6 c.2.1).1
      have k3 := (sndE z n g hn hT h7 c.2.2.1).1
      have k4 := (sndE u r g hn hT h8 c.2.2.2).1
      exact ⟨PE.imp (pe_ch3 (opr_cmp g.hK g.hu o1) (opr_cmp g.hK g.hu o2) (opr_cmp g.hK g.hu o3) k1 k2 k3 k4 hm) fun σ H Q q => ch3_step q, PT.imp (pt_ch3 (opr_cmp g.hK g.hu o1) (opr_cmp g.hK g.hu o2) (opr_cmp g.hK g.hu o3) k1 k2 k3 k4 hm) fun σ H Q q => ch3_step q⟩
    | _ => simp [chkE] at h
  | .ixof tup x e, a, X, sc, W, hx, g, hn, hT, h, c => by
    cases a with
    | Call fn as ks pos =>
      cases fn <;> first | (simp [chkE] at h; done) | skip
      rename_i o nm apos
      rcases as with _ | ⟨a1, _ | ⟨a2, as⟩⟩ <;> first | (simp [chkE] at h; done) | skip
      cases ks with
      | cons _ _ => simp [chkE] at h
      | nil =>
        simp only [chkE, Bool.and_eq_true, decide_eq_true_eq, Bool.not_eq_true'] at h
        obtain ⟨⟨⟨⟨⟨⟨h0, h1⟩, h2⟩, h3⟩, h4⟩, h5⟩, h6⟩ := h
        subst h1 h0
        exact tB_of (s_ixof g h2 h3 h4 (sndE x o g hn hT h5 c.1).1 (sndE e a1 g hn hT h6 c.2).1) (by intro _; rfl)
    | _ => simp [chkE] at h
  | .cntB x e, a, X, sc, W, hx, g, hn, hT, h, c => by
    cases a with
    | Call fn as ks pos =>
      cases fn <;> first | (simp [chkE] at h; done) | skip
      rename_i o nm apos
      rcases as with _ | ⟨a1, _ | ⟨a2, as⟩⟩ <;> first | (simp [chkE] at h; done) | skip
      cases ks with
      | cons _ _ => simp [chkE] at h
      | nil =>
        simp only [chkE, Bool.and_eq_true, decide_eq_true_eq, Bool.not_eq_true'] at h
        obtain ⟨⟨⟨⟨⟨h1, h2⟩, h3⟩, h4⟩, h5⟩, h6⟩ := h
        subst h1
        exact tB_of (s_cntB g h2 h3 h4 (sndE x o g hn hT h5 c.1).1 (sndE e a1 g hn hT h6 c.2).1) (by intro _; rfl)
    | _ => simp [chkE] at h
  | .dnew, a, X, sc, W, hx, g, hn, hT, h, c => by
    cases a with
    | Dict ks vs pos =>
      rcases ks with _ | ⟨k1, ks⟩ <;> rcases vs with _ | ⟨v1, vs⟩ <;> first | (simp [chkE] at h; done) | skip
      exact tB_of s_dnew (by intro _; rfl)
    | _ => simp [chkE] at h
  | .dget x ks, a, X, sc, W, hx, g, hn, hT, h, c => by
    cases a with
    | Subscript o r pos =>
      cases r <;> first | (simp [chkE] at h; done) | skip
      simp only [chkE, Bool.and_eq_true] at h
      exact tB_of (s_dget g (sndE x o g hn hT h.1 c.1).1 (sndEs ks _ g hn hT h.2 c.2) (chkEs_star h.2)) (by intro _; rfl)
    | _ => simp [chkE] at h
  | .dgetD x ks d, a, X, sc, W, hx, g, hn, hT, h, c => by
    cases a with
    | Call fn as kw pos =>
      cases fn <;> first | (simp [chkE] at h; done) | skip
      rename_i o nm apos
      rcases as with _ | ⟨a1, _ | ⟨a2, _ | ⟨a3, as⟩⟩⟩ <;> first | (simp [chkE] at h; done) | skip
      cases a1 <;> first | (simp [chkE] at h; done) | skip
      cases kw with
      | cons _ _ => simp [chkE] at h
      | nil =>
        simp only [chkE, Bool.and_eq_true, decide_eq_true_eq] at h
        obtain ⟨⟨⟨⟨⟨⟨h1, h2⟩, h3⟩, h4⟩, h5⟩, h6⟩, h7⟩ := h
        subst h1
        exact tB_of (s_dgetD g h2 h3 h4 (sndE x o g hn hT h5 c.1).1 (sndEs ks _ g hn hT h6 c.2.1) (chkEs_star h6) (sndE d a2 g hn hT h7 c.2.2).1) (by intro _; rfl)
    | _ => simp [chkE] at h
  | .din true ks x, a, X, sc, W, hx, g, hn, hT, h, c => by
    cases a with
    | Compare l ops rs pos =>
      cases l <;> first | (simp [chkE] at h; done) | skip
      rename_i els kk tpp
      rcases ops with _ | ⟨o, _ | ⟨p2, _ | ⟨p3, ops⟩⟩⟩ <;> rcases rs with _ | ⟨r, _ | ⟨r2, _ | ⟨r3, rs⟩⟩⟩ <;> first | (simp [chkE] at h; done) | skip
      cases o <;> first | (simp [chkE] at h; done) | skip
      simp only [chkE, Bool.and_eq_true, Bool.not_eq_true'] at h
      have q := s_din (k := kk) (tp := tpp) g (sndE x r g hn hT h.2 c.2).1 (sndEs ks _ g hn hT h.1.2 c.1) (chkEs_star h.1.2)
      exact ⟨pe_cmp q h.1.1, pt_cmp q h.1.1⟩
    | _ => simp [chkE] at h
  | .din false ks x, a, X, sc, W, hx, g, hn, hT, h, c => by
    cases a with
    | Compare l ops rs pos =>
      cases l <;> first | (simp [chkE] at h; done) | skip
      rename_i els kk tpp
      rcases ops with _ | ⟨o, _ | ⟨p2, _ | ⟨p3, ops⟩⟩⟩ <;> rcases rs with _ | ⟨r, _ | ⟨r2, _ | ⟨r3, rs⟩⟩⟩ <;> first | (simp [chkE] at h; done) | skip
      cases o <;> first | (simp [chkE] at h; done) | skip
      simp only [chkE, Bool.and_eq_true, Bool.not_eq_true'] at h
      have q := s_dnin (k := kk) (tp := tpp) g (sndE x r g hn hT h.2 c.2).1 (sndEs ks _ g hn hT h.1.2 c.1) (chkEs_star h.1.2)
      exact ⟨pe_cmp q h.1.1, pt_cmp q h.1.1⟩
    | _ => simp [chkE] at h
  | .kget x k, a, X, sc, W, hx, g, hn, hT, h, c => by
    simp only [chkE] at h
    cases hB : subE a with
    | none => rw [hB] at h; simp at h
    | some p =>
      obtain ⟨o, i⟩ := p
      rw [hB] at h
      simp only [Bool.and_eq_true] at h
      obtain ⟨q1, pos, rfl⟩ := subE_eq hB
      exact tB_of (s_kget g q1 (sndE x o g hn hT h.1 c.1).1 (sndE k i g hn hT h.2 c.2).1) (by intro _; rfl)
  | .kgetD x k d, a, X, sc, W, hx, g, hn, hT, h, c => by
    simp only [chkE] at h
    cases hB : met2B "get" a with
    | none => rw [hB] at h; simp at h
    | some p =>
      obtain ⟨o, y, f⟩ := p
      rw [hB] at h
      simp only [Bool.and_eq_true] at h
      obtain ⟨q1, q2, q3, apos, pos, q4, rfl⟩ := met2B_eq hB
      exact tB_of (s_kgetD g q1 q2 q3 q4 (sndE x o g hn hT h.1.1 c.1).1 (sndE k y g hn hT h.1.2 c.2.1).1 (sndE d f g hn hT h.2 c.2.2).1) (by intro _; rfl)
  | .kin true k x, a, X, sc, W, hx, g, hn, hT, h, c => by
    simp only [chkE] at h
    cases hB : cmpB (inOp true) a with
    | none => rw [hB] at h; simp at h
    | some p =>
      obtain ⟨l, r⟩ := p
      rw [hB] at h
      simp only [Bool.and_eq_true] at h
      have hB : cmpB .In a = some (l, r) := hB
      obtain ⟨q1, pos, rfl⟩ := cmpB_eq hB
      have q := s_kin g (sndE k l g hn hT h.1 c.1).1 (sndE x r g hn hT h.2 c.2).1
      exact ⟨pe_cmp q q1, pt_cmp q q1⟩
  | .kin false k x, a, X, sc, W, hx, g, hn, hT, h, c => by
    simp only [chkE] at h
    cases hB : cmpB (inOp false) a with
    | none => rw [hB] at h; simp at h
    | some p =>
      obtain ⟨l, r⟩ := p
      rw [hB] at h
      simp only [Bool.and_eq_true] at h
      have hB : cmpB .NotIn a = some (l, r) := hB
      obtain ⟨q1, pos, rfl⟩ := cmpB_eq hB
      have q := s_knin g (sndE k l g hn hT h.1 c.1).1 (sndE x r g hn hT h.2 c.2).1
      exact ⟨pe_cmp q q1, pt_cmp q q1⟩
  | .knew, a, X, sc, W, hx, g, hn, hT, h, c => by
    cases a with
    | Dict ks vs pos =>
      rcases ks with _ | ⟨k1, ks⟩ <;> rcases vs with _ | ⟨v1, vs⟩ <;> first | (simp [chkE] at h; done) | skip
      exact tB_of s_knew (by intro _; rfl)
    | _ => simp [chkE] at h
  | .kdisp ks vs, a, X, sc, W, hx, g, hn, hT, h, c => by
    simp only [chkE] at h
    cases hB : dispB a with
    | none => rw [hB] at h; simp at h
    | some p =>
      obtain ⟨as, bs⟩ := p
      rw [hB] at h
      simp only [Bool.and_eq_true] at h
      obtain ⟨q1, q2, pos, rfl⟩ := dispB_eq hB
      exact tB_of (s_kdisp (sndEs ks as g hn hT h.1 c.1) (sndEs vs bs g hn hT h.2 c.2) q1 q2 (chkEs_len h.1) (chkEs_len h.2)) (by intro _; rfl)
  | .dmk x, a, X, sc, W, hx, g, hn, hT, h, c => by
    simp only [chkE, Bool.and_eq_true] at h
    obtain ⟨h1, h⟩ := h
    cases hB : cal1B sc "dict" a with
    | none => rw [hB] at h; simp at h
    | some o =>
      rw [hB] at h
      obtain ⟨q1, q2, p, pos, rfl⟩ := cal1B_eq hB
      exact tB_of (s_dmk g h1 q1 q2 (sndE x o g hn hT h c).1) (by intro _; rfl)
  | .dlist x, a, X, sc, W, hx, g, hn, hT, h, c => by
    simp only [chkE, Bool.and_eq_true] at h
    obtain ⟨h1, h⟩ := h
    cases hB : cal1B sc "list" a with
    | none => rw [hB] at h; simp at h
    | some o =>
      rw [hB] at h
      obtain ⟨q1, q2, p, pos, rfl⟩ := cal1B_eq hB
      exact tB_of (s_dlist g h1 q1 q2 (sndE x o g hn hT h c).1) (by intro _; rfl)
  | .sortT x, a, X, sc, W, hx, g, hn, hT, h, c => by
    simp only [chkE] at h
    cases hB : cal1B sc "sorted" a with
    | none => rw [hB] at h; simp at h
    | some o =>
      rw [hB] at h
      obtain ⟨q1, q2, p, pos, rfl⟩ := cal1B_eq hB
      exact tB_of (s_sortT g q1 q2 (sndE x o g hn hT h c).1) (by intro _; rfl)
  | .comp2 own own1 pt it ifs pt1 it1 ifs1 e, a, X, sc, W, hx, g, hn, hT, h, c => by
    simp only [chkE] at h
    cases hB : comp2B a with
    | none => rw [hB] at h; simp at h
    | some p =>
      obtain ⟨elt, tg, iter, is, tg1, iter1, is1, scope⟩ := p
      rw [hB] at h
      obtain ⟨pos, rfl⟩ := comp2B_eq hB
      simp only [Bool.and_eq_true, decide_eq_true_eq] at h
      obtain ⟨⟨⟨⟨⟨⟨⟨⟨⟨⟨⟨⟨⟨⟨⟨⟨h1, h2⟩, h2'⟩, h3⟩, h3'⟩, h4⟩, h5⟩, h6⟩, h6'⟩, hv⟩, h7⟩, h8⟩, h9⟩, k7⟩, k8⟩, k9⟩, h10⟩ := h
      have hxT := hT h1
      have hkind : scope.kind = .function := (blkOk_by h5).kind
      have hT' : (sc.blk scope).calm = true → ∀ o σ, hx o σ := fun _ => hxT
      have nS : ∀ {W' : WX} {X' : Cx}, Hnd γ X' (sc.blk scope) G me hx W' := fun {W' X'} => Hnd.none rfl rfl rfl
      have hok : BlkOk X.N X.env.scope scope (ownP sc own) := by rw [g.hN, g.nm]; exact blkOk_by h5
      have key := pe_lc2 (X := X) (elt := elt) (tg := tg) (iter := iter) (ifs := is) (tg1 := tg1) (iter1 := iter1) (ifs1 := is1) (scope := scope) (pos := pos) (vs1 := own1) (g.calm h1) g.nd (sndI it iter g hn hT h7 c.2.1) hok
        (fun i hi => by rw [h4]; have := List.all_eq_true.mp hv i hi; simpa using this)
        (fun s H C cl fp => sndP pt tg (g.blk hkind s H C cl fp) rfl nS hxT h8 c.1)
        (g := tP γ hx (slots pt) (fun x env st => pat G me pt x env st)) (tt := tIfs γ hx (evIfs G me ifs)) (te := tI γ noW hx (evE G me e))
        (g1 := tP γ hx (slots pt1) (fun x env st => pat G me pt1 x env st)) (tt1 := tIfs γ hx (evIfs G me ifs1)) (wi1 := tIt γ noW hx (evIt G me it1))
        (fun s H C cl fp => ifs_few h3 (sndEs ifs is (g.blk hkind s H C cl fp) nS hT' h9 c.2.2.1)) (fun s H C cl fp => sndI it1 iter1 (g.blk hkind s H C cl fp) nS hT' k7 c.2.2.2.2.1)
        (fun s H C cl fp => sndP pt1 tg1 (g.blk hkind s H C cl fp) rfl nS hxT k8 c.2.2.2.1) (fun s H C cl fp => ifs_few h3' (sndEs ifs1 is1 (g.blk hkind s H C cl fp) nS hT' k9 c.2.2.2.2.2.1))
        (fun s H C cl fp => (sndE e elt (g.blk hkind s H C cl fp) nS hT' h10 c.2.2.2.2.2.2).1) (set_plain h2 X.env) (fun env x => set_plain h2' env x)
      rw [h4] at key
      exact tB_of (PE.imp key fun σ H Q q => comp2_read hxT (fun j hj => by have := List.all_eq_true.mp h6 j hj; simpa using this) (fun j hj => by have := List.all_eq_true.mp h6' j hj; simpa using this) q) (by intro _; rfl)
  | .ixN nm y e, a, X, sc, W, hx, g, hn, hT, h, c => by
    cases a with
    | Call fn as kw pos =>
      cases fn <;> first | (simp [chkE] at h; done) | skip
      rename_i o m apos
      cases o <;> first | (simp [chkE] at h; done) | skip
      rename_i z p
      rcases as with _ | ⟨a1, _ | ⟨a2, as⟩⟩ <;> first | (simp [chkE] at h; done) | skip
      rcases kw with _ | ⟨w1, kw⟩ <;> first | (simp [chkE] at h; done) | skip
      simp only [chkE, Bool.and_eq_true, decide_eq_true_eq] at h
      obtain ⟨⟨⟨⟨⟨h1, h2⟩, h3⟩, h4⟩, h5⟩, h6⟩ := h
      subst h1 h2
      exact tB_of (s_ixN g h3 h4 h5 c.1 (sndE e a1 g hn hT h6 c.2).1) (by intro _; rfl)
    | _ => simp [chkE] at h
  | .ixT nm y b e, a, X, sc, W, hx, g, hn, hT, h, c => by
    cases a with
    | Call fn as kw pos =>
      cases fn <;> first | (simp [chkE] at h; done) | skip
      rename_i o m apos
      cases o <;> first | (simp [chkE] at h; done) | skip
      rename_i o1 i p2
      cases o1 <;> first | (simp [chkE] at h; done) | skip
      rename_i z p
      rcases as with _ | ⟨a1, _ | ⟨a2, as⟩⟩ <;> first | (simp [chkE] at h; done) | skip
      rcases kw with _ | ⟨w1, kw⟩ <;> first | (simp [chkE] at h; done) | skip
      simp only [chkE, Bool.and_eq_true, decide_eq_true_eq] at h
      obtain ⟨⟨⟨⟨⟨⟨⟨h1, h2⟩, h3⟩, h4⟩, h5⟩, h6⟩, h7⟩, h8⟩ := h
      subst h1 h2
      exact tB_of (s_ixT g h3 h4 h5 h6 c.1 (sndE b i g hn hT h7 c.2.1).1 (sndE e a1 g hn hT h8 c.2.2).1) (by intro _; rfl)
    | _ => simp [chkE] at h
  | .dsort x, a, X, sc, W, hx, g, hn, hT, h, c => by
    cases a with
    | Call fn as kw pos =>
      cases fn <;> first | (simp [chkE] at h; done) | skip
      rename_i nm p
      rcases as with _ | ⟨a1, _ | ⟨a2, as⟩⟩ <;> first | (simp [chkE] at h; done) | skip
      cases a1 <;> first | (simp [chkE] at h; done) | skip
      rename_i fn2 as2 kw2 pos2
      cases fn2 <;> first | (simp [chkE] at h; done) | skip
      rename_i nm2 p2
      rcases as2 with _ | ⟨b1, _ | ⟨b2, as2⟩⟩ <;> first | (simp [chkE] at h; done) | skip
      rcases kw with _ | ⟨w1, kw⟩ <;> first | (simp [chkE] at h; done) | skip
      rcases kw2 with _ | ⟨w2, kw2⟩ <;> first | (simp [chkE] at h; done) | skip
      simp only [chkE, Bool.and_eq_true, decide_eq_true_eq] at h
      obtain ⟨⟨⟨⟨⟨⟨h1, h2⟩, h3⟩, h4⟩, h5⟩, h6⟩, h7⟩ := h
      subst h2 h4
      exact tB_of (s_dsort g h1 h3 h5 h6 (sndE x b1 g hn hT h7 c).1) (by intro _; rfl)
    | _ => simp [chkE] at h
  | .and_ x es, a, X, sc, W, hx, g, hn, hT, h, c => by
    cases a with
    | BoolOp o as pos =>
      cases o <;> first | (simp [chkE] at h; done) | skip
      rcases as with _ | ⟨a1, as⟩
      · simp [chkE] at h
      · simp only [chkE, Bool.and_eq_true] at h
        have k1 := sndE x a1 g hn hT h.1 c.1
        have k2 := sndEs es as g hn hT h.2 c.2
        exact ⟨s_and k1.1 k2, (s_andT k1.2 k2).pt⟩
    | _ => simp [chkE] at h
  | .or_ x es, a, X, sc, W, hx, g, hn, hT, h, c => by
    cases a with
    | BoolOp o as pos =>
      cases o <;> first | (simp [chkE] at h; done) | skip
      rcases as with _ | ⟨a1, as⟩
      · simp [chkE] at h
      · simp only [chkE, Bool.and_eq_true] at h
        have k1 := sndE x a1 g hn hT h.1 c.1
        have k2 := sndEs es as g hn hT h.2 c.2
        exact ⟨s_or k1.1 k2, (s_orT k1.2 k2).pt⟩
    | _ => simp [chkE] at h
  | .not_ x, a, X, sc, W, hx, g, hn, hT, h, c => by
    cases a with
    | UnaryOp o l pos =>
      cases o <;> first | (simp [chkE] at h; done) | skip
      simp only [chkE] at h
      have k1 := sndE x l g hn hT h c
      exact ⟨s_not k1.1, s_notT k1.2⟩
    | _ => simp [chkE] at h
  | .ite t x y, a, X, sc, W, hx, g, hn, hT, h, c => by
    cases a with
    | IfExp tt l r pos =>
      simp only [chkE, Bool.and_eq_true] at h
      have k0 := sndE t tt g hn hT h.1.1 c.1
      have k1 := sndE x l g hn hT h.1.2 c.2.1
      have k2 := sndE y r g hn hT h.2 c.2.2
      exact ⟨s_ite k0.2 k1.1 k2.1, s_iteT k0.2 k1.2 k2.2⟩
    | _ => simp [chkE] at h
  | .idx x y, a, X, sc, W, hx, g, hn, hT, h, c => by
    cases a with
    | Subscript l r pos =>
      simp only [chkE, Bool.and_eq_true] at h
      exact tB_of (s_idx g h.1.1 (sndE x l g hn hT h.1.2 c.1).1 (sndE y r g hn hT h.2 c.2).1) (by intro _; rfl)
    | _ => simp [chkE] at h
  | .sl x lo hi, a, X, sc, W, hx, g, hn, hT, h, c => by
    cases a with
    | Subscript l r pos =>
      cases r <;> first | (simp [chkE] at h; done) | skip
      rename_i ol oh os p2
      cases os with
      | some _ => simp [chkE] at h
      | none =>
        simp only [chkE, Bool.and_eq_true] at h
        refine tB_of (s_sl g (sndE x l g hn hT h.1.1 c.1).1 ?_ ?_) (by intro _; rfl)
        · cases ol with
          | none => exact h.1.2
          | some l1 =>
            have h2 := h.1.2
            simp only [Bool.and_eq_true, Bool.not_eq_true'] at h2
            exact ⟨h2.2, (sndE lo l1 g hn hT h2.1 c.2.1).1⟩
        · cases oh with
          | none => exact h.2
          | some l1 =>
            have h2 := h.2
            simp only [Bool.and_eq_true, Bool.not_eq_true'] at h2
            exact ⟨h2.2, (sndE hi l1 g hn hT h2.1 c.2.2).1⟩
    | _ => simp [chkE] at h
  | .call fd es, a, X, sc, W, hx, g, hn, hT, h, c => by
    cases a with
    | Call f as ks pos =>
      cases f <;> first | (simp [chkE] at h; done) | skip
      rename_i x' p
      cases ks with
      | cons _ _ => simp [chkE] at h
      | nil =>
        simp only [chkE, Bool.and_eq_true, decide_eq_true_eq] at h
        obtain ⟨⟨⟨h1, h2⟩, h3⟩, h4⟩ := h
        have q := s_call g h3 h1 h2 c.1 (sndEs es as g hn hT h4 c.2) (chkEs_star h4) (p := p) (pos := pos)
        have q : PE X (.Call (.Name x' p) as [] pos) (tI γ W hx (evE G me (.call fd es))) := by simpa only [evE] using q
        exact tB_of q (by intro _; rfl)
    | _ => simp [chkE] at h
  | .self es, a, X, sc, W, hx, g, hn, hT, h, c => by
    cases a with
    | Call f as ks pos =>
      cases f <;> first | (simp [chkE] at h; done) | skip
      rename_i x' p
      cases ks with
      | cons _ _ => simp [chkE] at h
      | nil =>
        simp only [chkE, Bool.and_eq_true, decide_eq_true_eq] at h
        obtain ⟨⟨⟨h1, h2⟩, h3⟩, h4⟩ := h
        have q := s_call g h3 h1 h2 c.1 (sndEs es as g hn hT h4 c.2) (chkEs_star h4) (p := p) (pos := pos)
        have q : PE X (.Call (.Name x' p) as [] pos) (tI γ W hx (evE G me (.self es))) := by simpa only [evE] using q
        exact tB_of q (by intro _; rfl)
    | _ => simp [chkE] at h
  | .bi f es, a, X, sc, W, hx, g, hn, hT, h, c => by
    cases a with
    | Call fn as ks pos =>
      cases fn <;> first | (simp [chkE] at h; done) | skip
      rename_i x' p
      cases ks with
      | cons _ _ => simp [chkE] at h
      | nil =>
        simp only [chkE, Bool.and_eq_true, decide_eq_true_eq, Bool.not_eq_true'] at h
        obtain ⟨⟨⟨⟨⟨h1, h2⟩, h3⟩, h4⟩, h5⟩, h6⟩ := h
        subst h3
        cases as with
        | nil => simp at h5
        | cons a1 as => exact tB_of (s_bi g h1 h2 h4 (sndEs es (a1 :: as) g hn hT h6 c) (chkEs_star h6)) (by intro _; rfl)
    | _ => simp [chkE] at h
  | .isI x ts, a, X, sc, W, hx, g, hn, hT, h, c => by
    cases a with
    | Call fn as ks pos =>
      cases fn <;> first | (simp [chkE] at h; done) | skip
      rename_i x' p
      rcases as with _ | ⟨l, _ | ⟨r, _ | ⟨r3, as⟩⟩⟩ <;> first | (simp [chkE] at h; done) | skip
      cases ks with
      | cons _ _ => simp [chkE] at h
      | nil =>
        simp only [chkE, Bool.and_eq_true, decide_eq_true_eq, Bool.not_eq_true'] at h
        obtain ⟨⟨⟨⟨⟨⟨⟨⟨h1, h2⟩, h3⟩, h4⟩, h5⟩, h6⟩, h7⟩, h8⟩, h9⟩ := h
        subst h1
        exact tB_of (s_isI g h2 h6 h3 (by rintro rfl; simp at h4) h5 h7 h8 (sndE x l g hn hT h9 c).1) (by intro _; rfl)
    | _ => simp [chkE] at h
  | .bm f x es, a, X, sc, W, hx, g, hn, hT, h, c => by
    cases a with
    | Call fn as ks pos =>
      cases fn <;> first | (simp [chkE] at h; done) | skip
      rename_i o nm apos
      cases ks with
      | cons _ _ => simp [chkE] at h
      | nil =>
        simp only [chkE, Bool.and_eq_true, decide_eq_true_eq, Bool.not_eq_true'] at h
        obtain ⟨⟨⟨⟨⟨⟨⟨h1, h2⟩, h3⟩, h4⟩, h5⟩, h6⟩, h7⟩, h8⟩ := h
        subst h2
        cases as with
        | nil => simp at h5
        | cons a1 as => exact tB_of (s_bm g h1 h3 h4 h6 (sndE x o g hn hT h7 c.1).1 (sndEs es (a1 :: as) g hn hT h8 c.2) (chkEs_star h8)) (by intro _; rfl)
    | _ => simp [chkE] at h
  | .attr _ _ _ _, a, X, sc, W, hx, g, hn, hT, h, c => by
    simp [chkE] at h
  | .meth _ _ _ _, a, X, sc, W, hx, g, hn, hT, h, c => by
    simp [chkE] at h
  | .make _ _ _ _ _, a, X, sc, W, hx, g, hn, hT, h, c => by
    simp [chkE] at h
  | .comp own pt it ifs e, a, X, sc, W, hx, g, hn, hT, h, c => by
    cases a with
    | ListComp elt gens scope pos =>
      rcases gens with _ | ⟨⟨tg, iter, is, asy⟩, _ | ⟨g2, gens⟩⟩ <;> first | (simp [chkE] at h; done) | skip
      by_cases ha : asy = 0
      · subst ha
        simp only [chkE, Bool.and_eq_true, decide_eq_true_eq] at h
        obtain ⟨⟨⟨⟨⟨⟨⟨⟨⟨h1, h2⟩, h3⟩, h4⟩, h5⟩, h6⟩, h7⟩, h8⟩, h9⟩, h10⟩ := h
        have hxT := hT h1
        have hkind : scope.kind = .function := (blkOk_by h5).kind
        have hT' : (sc.blk scope).calm = true → ∀ o σ, hx o σ := fun _ => hxT
        have nS : ∀ {W' : WX} {X' : Cx}, Hnd γ X' (sc.blk scope) G me hx W' := fun {W' X'} => Hnd.none rfl rfl rfl
        have hok : BlkOk X.N X.env.scope scope (ownP sc own) := by rw [g.hN, g.nm]; exact blkOk_by h5
        have key := pe_lc (X := X) (elt := elt) (tg := tg) (iter := iter) (ifs := is) (scope := scope) (pos := pos) (g.calm h1) g.nd (sndI it iter g hn hT h7 c.2.1) hok
          (fun s H C cl fp => sndP pt tg (g.blk hkind s H C cl fp) rfl nS hxT h8 c.1)
          (g := tP γ hx (slots pt) (fun x env st => pat G me pt x env st)) (tt := tIfs γ hx (evIfs G me ifs)) (te := tI γ noW hx (evE G me e))
          (fun s H C cl fp => ?_) (fun s H C cl fp => (sndE e elt (g.blk hkind s H C cl fp) nS hT' h10 c.2.2.2).1) (set_plain h2 X.env)
        · rw [h4] at key
          refine tB_of (PE.imp key fun σ H Q q => comp_read hxT (fun j hj => ?_) q) (by intro _; rfl)
          have := List.all_eq_true.mp h6 j hj
          simpa using this
        · have k9 := sndEs ifs is (g.blk hkind s H C cl fp) nS hT' h9 c.2.2.1
          rcases ifs with _ | ⟨i1, _ | ⟨i2, ifs⟩⟩
          · cases k9; exact ifs_nil
          · cases k9 with
            | cons q1 q2 q3 => cases q3; exact ifs_one q2
          · simp at h3
      · unfold chkE at h
        split at h <;> simp_all
    | _ => simp [chkE] at h
  | .hIs cc nm, a, X, sc, W, hx, g, hn, hT, h, c => by
    have p := hn.one (.hIs cc nm) a rfl h
    (simp only [chkE] at h; first | unfold hIsB at h | unfold hFldB at h | unfold actB at h | unfold wlitB at h) <;> split at h <;> first | (simp_all; done) | exact tB_of p (by intro _; rfl)
  | .hFld cn f, a, X, sc, W, hx, g, hn, hT, h, c => by
    have p := hn.one (.hFld cn f) a rfl h
    (simp only [chkE] at h; first | unfold hIsB at h | unfold hFldB at h | unfold actB at h | unfold wlitB at h) <;> split at h <;> first | (simp_all; done) | exact tB_of p (by intro _; rfl)
  | .dead, a, X, sc, W, hx, g, hn, hT, h, c => ⟨⟨fun pins s σ H Q I q => by
      obtain ⟨ρ, env, st, hh, R, Re, A⟩ := q
      simp only [evE] at A
      exact A.elim⟩, ⟨fun pins s σ H Q I q => by
      obtain ⟨ρ, env, st, hh, R, Re, A⟩ := q
      simp only [evE] at A
      exact A.elim⟩⟩
  | .act, a, X, sc, W, hx, g, hn, hT, h, c => by
    have p := hn.one .act a rfl h
    (simp only [chkE] at h; first | unfold hIsB at h | unfold hFldB at h | unfold actB at h | unfold wlitB at h) <;> split at h <;> first | (simp_all; done) | exact tB_of p (by intro _; rfl)
  | .wlit k, a, X, sc, W, hx, g, hn, hT, h, c => by
    have p := hn.one (.wlit k) a rfl h
    (simp only [chkE] at h; first | unfold hIsB at h | unfold hFldB at h | unfold actB at h | unfold wlitB at h) <;> split at h <;> first | (simp_all; done) | exact tB_of p (by intro _; rfl)
  | .wat i e, a, X, sc, W, hx, g, hn, hT, h, c => by
    cases a with
    | Call f as ks pos =>
      cases f <;> first | (simp [chkE] at h; done) | skip
      rename_i x' p
      rcases as with _ | ⟨l, _ | ⟨r3, as⟩⟩ <;> first | (simp [chkE] at h; done) | skip
      cases l <;> first | (simp [chkE] at h; done) | skip
      rename_i o r p2
      cases o <;> first | (simp [chkE] at h; done) | skip
      rename_i y p1
      cases ks with
      | cons _ _ => simp [chkE] at h
      | nil =>
        have h' := h
        simp only [chkE, Bool.and_eq_true] at h'
        exact tB_of (hn.wat i e x' y r p p1 p2 pos h (sndE e r g hn hT h'.2 c).1) (by intro _; rfl)
    | _ => simp [chkE] at h
theorem sndEs : ∀ (es : List E) (as : List Expr) {X : Cx} {sc : Sc} {W : WX} {hx : HX}, Good γ X sc W → Hnd γ X sc G me hx W → (sc.calm = true → ∀ o σ, hx o σ) → chkEs sc me es as = true → calEs (CallX γ X G) (GcOk γ X.mg) me es → AllE γ X W hx G me es as
  | [], [], _, _, _, _, g, hn, hT, h, c => .nil
  | [], _ :: _, _, _, _, _, g, hn, hT, h, c => by simp [chkEs] at h
  | _ :: _, [], _, _, _, _, g, hn, hT, h, c => by simp [chkEs] at h
  | e :: es, a :: as, _, _, _, _, g, hn, hT, h, c => by
    simp only [chkEs, Bool.and_eq_true] at h
    have q := sndE e a g hn hT h.1.2 c.1
    exact .cons q.1 q.2 (sndEs es as g hn hT h.2 c.2)
theorem sndP : ∀ (p : Pt) (t : Expr) {X : Cx} {sc : Sc} {W : WX} {hx : HX}, Good γ X sc W → W = noW → Hnd γ X sc G me hx noW → (∀ o σ, hx o σ) → chkP sc me p t = true → calP (CallX γ X G) (GcOk γ X.mg) me p → PG X t (tP γ hx (slots p) (pat G me p))
  | .v i, t, X, sc, W, hx, g, hw, hn, hT, h, c => by
    cases t with
    | Name x pos => exact p_var hT g h
    | _ => simp [chkP] at h
  | .tup ps, t, X, sc, W, hx, g, hw, hn, hT, h, c => by
    cases t with
    | Tuple ts k pos =>
      simp only [chkP, Bool.and_eq_true] at h
      exact p_tup g h.1 (sndPs ps ts g hw hn hT h.2 c)
    | _ => simp [chkP] at h
  | .idx x y, t, X, sc, W, hx, g, hw, hn, hT, h, c => by
    cases t with
    | Subscript o i pos =>
      simp only [chkP, Bool.and_eq_true] at h
      subst hw
      exact p_idx (sndE x o g hn (fun _ => hT) h.1.2 c.1).1 (sndE y i g hn (fun _ => hT) h.2 c.2).1 h.1.1
    | _ => simp [chkP] at h
  | .attr _ _ _ _, t, X, sc, W, hx, g, hw, hn, hT, h, c => by simp [chkP] at h
theorem sndPs : ∀ (ps : List Pt) (ts : List Expr) {X : Cx} {sc : Sc} {W : WX} {hx : HX}, Good γ X sc W → W = noW → Hnd γ X sc G me hx noW → (∀ o σ, hx o σ) → chkPs sc me ps ts = true → calPs (CallX γ X G) (GcOk γ X.mg) me ps → AllP γ X hx G me ps ts
  | [], [], _, _, _, _, g, hw, hn, hT, h, c => .nil
  | [], _ :: _, _, _, _, _, g, hw, hn, hT, h, c => by simp [chkPs] at h
  | _ :: _, [], _, _, _, _, g, hw, hn, hT, h, c => by simp [chkPs] at h
  | p :: ps, t :: ts, _, _, _, _, g, hw, hn, hT, h, c => by
    simp only [chkPs, Bool.and_eq_true] at h
    exact .cons h.1.1 (sndP p t g hw hn hT h.1.2 c.1) (sndPs ps ts g hw hn hT h.2 c.2)
theorem sndI : ∀ (i : MP.It) (a : Expr) {X : Cx} {sc : Sc} {W : WX} {hx : HX} {tg : Expr}, Good γ X sc W → Hnd γ X sc G me hx W → (sc.calm = true → ∀ o σ, hx o σ) → chkI sc me i a = true → calI (CallX γ X G) (GcOk γ X.mg) me i → PI X tg a (tIt γ W hx (evIt G me i))
  | .e e, a, X, sc, W, hx, tg, g, hn, hT, h, c => by
    simp only [chkI] at h
    exact i_e g (sndE e a g hn hT h c).1
  | .rng1 e, a, X, sc, W, hx, tg, g, hn, hT, h, c => by
    cases a with
    | Call f as ks pos =>
      cases f <;> first | (simp [chkI] at h; done) | skip
      rename_i x' p
      rcases as with _ | ⟨l, _ | ⟨r, as⟩⟩ <;> first | (simp [chkI] at h; done) | skip
      cases ks with
      | cons _ _ => simp [chkI] at h
      | nil =>
        simp only [chkI, Bool.and_eq_true, decide_eq_true_eq] at h
        obtain ⟨⟨⟨h1, h2⟩, h3⟩, h4⟩ := h
        subst h1
        exact i_r1 g h2 h3 (sndE e l g hn hT h4 c).1
    | _ => simp [chkI] at h
  | .rng2 x y, a, X, sc, W, hx, tg, g, hn, hT, h, c => by
    cases a with
    | Call f as ks pos =>
      cases f <;> first | (simp [chkI] at h; done) | skip
      rename_i x' p
      rcases as with _ | ⟨l, _ | ⟨r, _ | ⟨r3, as⟩⟩⟩ <;> first | (simp [chkI] at h; done) | skip
      cases ks with
      | cons _ _ => simp [chkI] at h
      | nil =>
        simp only [chkI, Bool.and_eq_true, decide_eq_true_eq] at h
        obtain ⟨⟨⟨⟨⟨h1, h2⟩, h3⟩, h4⟩, h5⟩, h6⟩ := h
        subst h1
        exact i_r2 g h2 h3 h4 (sndE x l g hn hT h5 c.1).1 (sndE y r g hn hT h6 c.2).1
    | _ => simp [chkI] at h
  | .rng3 x y z, a, X, sc, W, hx, tg, g, hn, hT, h, c => by
    cases a with
    | Call f as ks pos =>
      cases f <;> first | (simp [chkI] at h; done) | skip
      rename_i x' p
      rcases as with _ | ⟨l, _ | ⟨r, _ | ⟨t, _ | ⟨t4, as⟩⟩⟩⟩ <;> first | (simp [chkI] at h; done) | skip
      cases ks with
      | cons _ _ => simp [chkI] at h
      | nil =>
        simp only [chkI, Bool.and_eq_true, decide_eq_true_eq] at h
        obtain ⟨⟨⟨⟨⟨⟨⟨h1, h2⟩, h3⟩, h4⟩, h5⟩, h6⟩, h7⟩, h8⟩ := h
        subst h1
        exact i_r3 g h2 h3 h4 h5 (sndE x l g hn hT h6 c.1).1 (sndE y r g hn hT h7 c.2.1).1 (sndE z t g hn hT h8 c.2.2).1
    | _ => simp [chkI] at h
end
end
end MP

set_option linter.all false
set_option autoImplicit false
set_option Elab.async false
set_option maxRecDepth 100000
namespace MP
open PySem L2

/-! ### what a statement must satisfy -/
def AftS (γ : Gm) (hx : HX) (ρ : List Addr) (H : Hp) (r : RS) (D : Ends) (W : WX) : Prop := match r with
  | .nx env st => ∀ ρ' H' σ', Ext ρ H ρ' H' → Rep γ ρ' st H' → REnv γ hx ρ' H' env σ' → hx env.hx σ' → D.nx σ' H'
  | .bk env st => ∀ ρ' H' σ', Ext ρ H ρ' H' → Rep γ ρ' st H' → REnv γ hx ρ' H' env σ' → hx env.hx σ' → D.bk σ' H'
  | .ct env st => ∀ ρ' H' σ', Ext ρ H ρ' H' → Rep γ ρ' st H' → REnv γ hx ρ' H' env σ' → hx env.hx σ' → D.ct σ' H'
  | .rt x st => ∀ ρ' H' v, Ext ρ H ρ' H' → Rep γ ρ' st H' → RepT γ ρ' H' x v → (∀ a ∈ ownA x v, H a = none) → D.rt v H'
  | .exc e env st => ∀ ρ' H' σ' cls d, Ext ρ H ρ' H' → Rep γ ρ' st H' → REnv γ hx ρ' H' env σ' → hx env.hx σ' → RepX γ ρ' H' e cls d → W cls d σ' H'
  | .bad => False
def tSI (γ : Gm) (W : WX) (hx : HX) (m : Env → Store → RS) : TS := fun D σ H => ∃ ρ env st, hx env.hx σ ∧ Rep γ ρ st H ∧ REnv γ hx ρ H env σ ∧ AftS γ hx ρ H (m env st) D W
section
variable {γ : Gm} {X : Cx} {sc : Sc} {W : WX} {hx : HX} {G : Orc} {me : FnDef} {fu : Nat}
theorem AftS.ext {ρ ρ1 : List Addr} {H H1 : Hp} {r : RS} {D : Ends} (h : AftS γ hx ρ H r D W) (e : Ext ρ H ρ1 H1) : AftS γ hx ρ1 H1 r D W := by
  cases r with
  | nx env st => exact fun ρ' H' σ' e' R Re hh => h ρ' H' σ' (e.trans e') R Re hh
  | bk env st => exact fun ρ' H' σ' e' R Re hh => h ρ' H' σ' (e.trans e') R Re hh
  | ct env st => exact fun ρ' H' σ' e' R Re hh => h ρ' H' σ' (e.trans e') R Re hh
  | rt x st => exact fun ρ' H' v e' R T o => h ρ' H' v (e.trans e') R T fun a ha => e.back a (o a ha)
  | exc x env st => exact fun ρ' H' σ' cls d e' R Re hh T => h ρ' H' σ' cls d (e.trans e') R Re hh T
  | bad => exact h
theorem AftS.ends {ρ : List Addr} {H : Hp} {r : RS} {D D' : Ends} (h : AftS γ hx ρ H r D W) (h1 : ∀ env st, r = .nx env st → AftS γ hx ρ H r D' W) (h2 : D'.rt = D.rt) (h3 : D'.bk = D.bk) (h4 : D'.ct = D.ct) : AftS γ hx ρ H r D' W := by
  cases r with
  | nx env st => exact h1 env st rfl
  | bk env st => exact fun ρ' H' σ' e' R Re hh => by rw [h3]; exact h ρ' H' σ' e' R Re hh
  | ct env st => exact fun ρ' H' σ' e' R Re hh => by rw [h4]; exact h ρ' H' σ' e' R Re hh
  | rt x st => exact fun ρ' H' v e' R T o => by rw [h2]; exact h ρ' H' v e' R T o
  | exc x env st => exact h
  | bad => exact h
/-- an expression within a statement -/
theorem AftS.run {ρ : List Addr} {H : Hp} {env : Env} {st : Store} {σ : L2.St} {r : Res TV} {f : TV → Store → RS} {D : Ends} (R : Rep γ ρ st H) (Re : REnv γ hx ρ H env σ) (hh : hx env.hx σ) (h : AftS γ hx ρ H (r.run env f) D W) :
    Aft γ ρ H r (fun v H1 => ∃ ρ1 st1 x, Ext ρ H ρ1 H1 ∧ Rep γ ρ1 st1 H1 ∧ RepT γ ρ1 H1 x v ∧ (∀ a ∈ ownA x v, H a = none) ∧ AftS γ hx ρ H (f x st1) D W) (fun cls d H' => W cls d σ H') := by
  cases r with
  | ok x st => exact fun ρ' H' v e R T o => ⟨ρ', st, x, e, R, T, o, h⟩
  | exc x st' => exact fun ρ' H' cls d e R' X' => h ρ' H' σ cls d e R' (Re.mono R e) hh X'
  | bad => exact h
/-! ### plain statements -/
theorem s_nil : PSs X [] (tSI γ W hx (evSs G me fu [])) := ⟨fun pins s σ H D I h => pss_nil.run pins s σ H D I (by
  obtain ⟨ρ, env, st, hh, R, Re, A⟩ := h
  simp only [evSs] at A
  exact A ρ H σ (.refl ρ H) R Re hh)⟩
theorem s_cons {s : S} {ss : List S} {a : Stmt} {as : List Stmt} (h1 : PS X a (tSI γ W hx (evS G me fu s))) (h2 : PSs X as (tSI γ W hx (evSs G me fu ss))) : PSs X (a :: as) (tSI γ W hx (evSs G me fu (s :: ss))) := by
  refine PSs.imp (pss_cons h1 h2) fun D σ H h => ?_
  obtain ⟨ρ, env, st, hh, R, Re, A⟩ := h
  simp only [evSs] at A
  refine ⟨ρ, env, st, hh, R, Re, ?_⟩
  cases hm : evS G me fu s env st with
  | nx env1 st1 =>
    rw [hm] at A
    exact fun ρ' H' σ' e R' Re' hh' => ⟨ρ', env1, st1, hh', R', Re', A.ext e⟩
  | bk _ _ => rw [hm] at A; exact A
  | ct _ _ => rw [hm] at A; exact A
  | rt _ _ => rw [hm] at A; exact A
  | exc _ _ _ => rw [hm] at A; exact A
  | bad => rw [hm] at A; exact A
theorem s_pass {pos : Pos} : PS X (.Pass pos) (tSI γ W hx (evS G me fu .pass)) := PS.imp ps_pass fun D σ H h => by
  obtain ⟨ρ, env, st, hh, R, Re, A⟩ := h
  simp only [evS] at A
  exact A ρ H σ (.refl ρ H) R Re hh
theorem s_brk {pos : Pos} : PS X (.Break pos) (tSI γ W hx (evS G me fu .brk)) := PS.imp ps_break fun D σ H h => by
  obtain ⟨ρ, env, st, hh, R, Re, A⟩ := h
  simp only [evS] at A
  exact A ρ H σ (.refl ρ H) R Re hh
theorem s_cont {pos : Pos} : PS X (.Continue pos) (tSI γ W hx (evS G me fu .cont)) := PS.imp ps_continue fun D σ H h => by
  obtain ⟨ρ, env, st, hh, R, Re, A⟩ := h
  simp only [evS] at A
  exact A ρ H σ (.refl ρ H) R Re hh
theorem s_ret0 {pos : Pos} : PS X (.Return none pos) (tSI γ W hx (evS G me fu .ret0)) := PS.imp ps_retN fun D σ H h => by
  obtain ⟨ρ, env, st, hh, R, Re, A⟩ := h
  simp only [evS] at A
  exact A ρ H .non (.refl ρ H) R rfl (fun a ha => by simp [ownA] at ha)
theorem s_ret {e : E} {a : Expr} {pos : Pos} (he : PE X a (tI γ W hx (evE G me e))) : PS X (.Return (some a) pos) (tSI γ W hx (evS G me fu (.ret e))) := PS.imp (ps_ret he) fun D σ H h => by
  obtain ⟨ρ, env, st, hh, R, Re, A⟩ := h
  simp only [evS] at A
  refine ⟨ρ, env, st, hh, R, Re, (AftS.run R Re hh A).imp fun v H1 q => ?_⟩
  obtain ⟨ρ1, st1, x, e1, R1, T1, fr1, A1⟩ := q
  exact A1 ρ1 H1 v e1 R1 T1 fr1
theorem s_ex {e : E} {a : Expr} {pos : Pos} (he : PE X a (tI γ W hx (evE G me e))) (hs : swapsWith a none pos.line X.env = pure false) : PS X (.Expr a pos) (tSI γ W hx (evS G me fu (.ex e))) := PS.imp (ps_expr he hs) fun D σ H h => by
  obtain ⟨ρ, env, st, hh, R, Re, A⟩ := h
  simp only [evS] at A
  refine ⟨ρ, env, st, hh, R, Re, (AftS.run R Re hh A).imp fun v H1 q => ?_⟩
  obtain ⟨ρ1, st1, x, e1, R1, T1, fr1, A1⟩ := q
  exact A1 ρ1 H1 σ e1 R1 (Re.mono R e1) hh
theorem s_iteS {t : E} {a b : List S} {c : Expr} {p q : List Stmt} {pos : Pos} (ht : PT X c (tB (tI γ W hx (evE G me t)))) (ha : PSs X p (tSI γ W hx (evSs G me fu a))) (hb : PSs X q (tSI γ W hx (evSs G me fu b))) :
    PS X (.If c p q pos) (tSI γ W hx (evS G me fu (.ite t a b))) := PS.imp (ps_if ht ha hb) fun D σ H h => by
  obtain ⟨ρ, env, st, hh, R, Re, A⟩ := h
  simp only [evS] at A
  refine ⟨ρ, env, st, hh, R, Re, (AftS.run R Re hh A).imp fun v H1 q => ?_⟩
  obtain ⟨ρ1, st1, x, e1, R1, T1, fr1, A1⟩ := q
  split at A1
  · exact ⟨true, boolOf_rep T1 ‹_›, iteT ⟨ρ1, env, st1, hh, R1, Re.mono R e1, A1.ext e1⟩⟩
  · exact ⟨false, boolOf_rep T1 ‹_›, iteF ⟨ρ1, env, st1, hh, R1, Re.mono R e1, A1.ext e1⟩⟩
  · exact A1.elim
/-! ### loops -/
theorem s_whl {t : E} {b : List S} {c : Expr} {body : List Stmt} {pos : Pos} (hp : PassesOwn (model X.prog X.w) X.A X.env X.xe) (ht : PT X c (tB (tI γ W hx (evE G me t)))) (hb : PSs X body (tSI γ W hx (evSs G me fu b))) :
    PS X (.While c body [] pos) (tSI γ W hx (evS G me fu (.whl t b))) := PS.imp (ps_while hp ht hb) fun D σ H h => by
  obtain ⟨ρ, env, st, hh, R, Re, A⟩ := h
  simp only [evS] at A
  refine ⟨fun n σ' H' => ∃ ρ2 env2 st2, Ext ρ H ρ2 H' ∧ Rep γ ρ2 st2 H' ∧ REnv γ hx ρ2 H' env2 σ' ∧ hx env2.hx σ' ∧ AftS γ hx ρ H (whlF (fun env st => (evE G me t env st).bind fun x st => match boolOf x with | some k => .ok k st | none => .bad) (fun env st => evSs G me fu b env st) n env2 st2) D W, ⟨fu, ρ, env, st, .refl ρ H, R, Re, hh, A⟩, ?_⟩
  rintro n σ2 H2 ⟨ρ2, env2, st2, e2, R2, Re2, hh2, A2⟩
  cases n with
  | zero => simp only [whlF] at A2; exact A2.elim
  | succ n =>
    simp only [whlF] at A2
    refine ⟨ρ2, env2, st2, hh2, R2, Re2, ?_⟩
    cases hm : evE G me t env2 st2 with
    | bad => rw [hm] at A2; exact A2.elim
    | exc x s1 =>
      rw [hm] at A2
      exact fun ρ' H' cls d e R' X' => A2 ρ' H' σ2 cls d (e2.trans e) R' (Re2.mono R2 e) hh2 X'
    | ok x s1 =>
      rw [hm] at A2
      simp only [Res.bind] at A2
      intro ρ3 H3 v e3 R3 T3 fr3
      cases hb : boolOf x with
      | none => rw [hb] at A2; exact A2.elim
      | some k =>
        rw [hb] at A2
        refine ⟨k, boolOf_rep T3 hb, ?_⟩
        cases k with
        | false =>
          refine iteF ?_
          exact A2 ρ3 H3 σ2 (e2.trans e3) R3 (Re2.mono R2 e3) hh2
        | true =>
          refine iteT ⟨fun σ' H' => ∃ ρ4 env4 st4, Ext ρ H ρ4 H' ∧ Rep γ ρ4 st4 H' ∧ REnv γ hx ρ4 H' env4 σ' ∧ hx env4.hx σ' ∧ AftS γ hx ρ H (whlF (fun env st => (evE G me t env st).bind fun x st => match boolOf x with | some k => .ok k st | none => .bad) (fun env st => evSs G me fu b env st) n env4 st4) D W,
            fun σ' H' z => ⟨n, by omega, z⟩, ρ3, env2, s1, hh2, R3, Re2.mono R2 e3, ?_⟩
          have e23 := e2.trans e3
          simp only at A2
          cases hm4 : evSs G me fu b env2 s1 with
          | nx env4 st4 => rw [hm4] at A2; exact fun ρ' H' σ' e R' Re' hh' => ⟨ρ', env4, st4, e23.trans e, R', Re', hh', A2⟩
          | ct env4 st4 => rw [hm4] at A2; exact fun ρ' H' σ' e R' Re' hh' => ⟨ρ', env4, st4, e23.trans e, R', Re', hh', A2⟩
          | bk env4 st4 => rw [hm4] at A2; exact fun ρ' H' σ' e R' Re' hh' => A2 ρ' H' σ' (e23.trans e) R' Re' hh'
          | rt y st4 => rw [hm4] at A2; exact fun ρ' H' w e R' T' o => A2 ρ' H' w (e23.trans e) R' T' fun a ha => e23.back a (o a ha)
          | exc y env4 st4 => rw [hm4] at A2; exact fun ρ' H' σ' cls d e R' Re' hh' X' => A2 ρ' H' σ' cls d (e23.trans e) R' Re' hh' X'
          | bad => rw [hm4] at A2; exact A2.elim
theorem s_for {p : Pt} {it : MP.It} {b : List S} {tg iter : Expr} {body : List Stmt} {pos : Pos} (hp : PassesOwn (model X.prog X.w) X.A X.env X.xe) (hc : X.calm = true) (hi : PI X tg iter (tIt γ W hx (evIt G me it))) (hg : PG X tg (tP γ hx (slots p) (pat G me p)))
    (hb : PSs X body (tSI γ W hx (evSs G me fu b))) (hs : ∀ x, foldedSetIterable iter X.env x = pure x) : PS X (.For tg iter body [] pos) (tSI γ W hx (evS G me fu (.for_ p it b))) := PS.imp (ps_for hp hc hi hg hb hs) fun D σ H h => by
  obtain ⟨ρ, env, st, hh, R, Re, A⟩ := h
  simp only [evS] at A
  refine ⟨ρ, env, st, hh, R, Re, ?_⟩
  cases hm : evIt G me it env st with
  | bad => rw [hm] at A; exact A.elim
  | exc x s1 => rw [hm] at A; exact fun ρ' H' cls d e R' X' => A ρ' H' σ cls d e R' (Re.mono R e) hh X'
  | ok q st1 =>
    rw [hm] at A
    simp only [Res.run] at A
    intro ρ1 H1 J tm e1 R1 j1 tmn
    have go : ∃ tgt : Env → IV → Store → RS, tgt = (fun env x st => (pat G me p (.v x) env st).quiet.run env fun env st => .nx env st) := ⟨_, rfl⟩
    obtain ⟨tgt, htgt⟩ := go
    change AftS γ hx ρ H (forF q (fun env x st => (pat G me p (.v x) env st).quiet.run env fun env st => .nx env st) _ q.xs env st1) D W at A
    rw [← htgt] at A
    refine ⟨fun i m σ' H' => m = q.xs.length - i ∧ i ≤ q.xs.length ∧ ∃ ρ2 env2 st2, Ext ρ H ρ2 H' ∧ Rep γ ρ2 st2 H' ∧ JAt γ ρ2 st2 H' J q tm ∧ REnv γ hx ρ2 H' env2 σ' ∧ hx env2.hx σ' ∧
      AftS γ hx ρ H (forF q tgt (fun env st => evSs G me fu b env st) (q.xs.drop i) env2 st2) D W, ⟨q.xs.length, by simp, Nat.zero_le _, ρ1, env, st1, e1, R1, j1, Re.mono R e1, hh, by simpa using A⟩, ?_⟩
    rintro i m σ2 H2 ⟨rfl, hi, ρ2, env2, st2, e2, R2, j2, Re2, hh2, A2⟩
    by_cases hlt : i < q.xs.length
    · refine .inr ?_
      have hx' : q.xs[i]? = some q.xs[i] := List.getElem?_eq_getElem hlt
      obtain ⟨g1, g2⟩ := j2.go R2 hx'
      rw [List.drop_eq_getElem_cons hlt] at A2
      unfold forF at A2
      split at A2
      · rename_i hst2
        refine ⟨g1, fun σ' H' => ∃ ρ3 env3 st3, Ext ρ H ρ3 H' ∧ Rep γ ρ3 st3 H' ∧ (q.stays st3 = true → JAt γ ρ3 st3 H' J q tm) ∧ REnv γ hx ρ3 H' env3 σ' ∧ hx env3.hx σ' ∧
          AftS γ hx ρ H (forF q tgt (fun env st => evSs G me fu b env st) (q.xs.drop (i + 1)) env3 st3) D W, fun σ' H' z => ?_, fun y H' hy => ?_⟩
        · obtain ⟨ρ3, env3, st3, z1, z2, z3, z4, z5, z6⟩ := z
          have hst3 : q.stays st3 = true := by
            have z6' := z6
            unfold forF at z6'
            split at z6'
            · split at z6'
              · assumption
              · exact z6'.elim
            · split at z6'
              · assumption
              · exact z6'.elim
          exact ⟨q.xs.length - (i + 1), by omega, rfl, hlt, ρ3, env3, st3, z1, z2, z3 hst3, z4, z5, z6⟩
        · obtain ⟨rfl, ry⟩ := g2 y H' hy
          refine ⟨ρ2, H', ρ2, env2, st2, .v q.xs[i], hh2, .refl ρ2 H', R2, Re2, Re2.old, ry, (fun a ha => by simp [ownA] at ha), ?_⟩
          rw [htgt] at A2
          simp only at A2
          rw [← htgt] at A2
          cases hm3 : pat G me p (.v q.xs[i]) env2 st2 with
          | bad => rw [hm3] at A2; exact A2.elim
          | exc _ _ => rw [hm3] at A2; exact A2.elim
          | ok env3 st3 =>
            rw [hm3] at A2
            simp only [Res.quiet, Res.run, RS.next] at A2
            intro ρ3 H3 σ3 e3 R3 Re3 hh3 s3
            refine ⟨ρ3, env3, st3, hh3, R3, Re3, ?_⟩
            have e23 := e2.trans e3
            cases hm4 : evSs G me fu b env3 st3 with
            | nx env4 st4 => rw [hm4] at A2; exact fun ρ' H'' σ' e R' Re' hh' => ⟨ρ', env4, st4, e23.trans e, R', fun hst => j2.mono R2 (e3.trans e) hst, Re', hh', A2⟩
            | ct env4 st4 => rw [hm4] at A2; exact fun ρ' H'' σ' e R' Re' hh' => ⟨ρ', env4, st4, e23.trans e, R', fun hst => j2.mono R2 (e3.trans e) hst, Re', hh', A2⟩
            | bk env4 st4 => rw [hm4] at A2; exact fun ρ' H'' σ' e R' Re' hh' => A2 ρ' H'' σ' (e23.trans e) R' Re' hh'
            | rt z st4 => rw [hm4] at A2; exact fun ρ' H'' w e R' T' o => A2 ρ' H'' w (e23.trans e) R' T' fun a ha => e23.back a (o a ha)
            | exc z env4 st4 => rw [hm4] at A2; exact fun ρ' H'' σ' cls d e R' Re' hh' X' => A2 ρ' H'' σ' cls d (e23.trans e) R' Re' hh' X'
            | bad => rw [hm4] at A2; exact A2.elim
      · exact A2.elim
    · have e : i = q.xs.length := by omega
      subst e
      refine .inl ⟨j2.stop R2, ?_⟩
      rw [List.drop_length] at A2
      unfold forF at A2
      split at A2
      · exact A2 ρ2 H2 σ2 e2 R2 Re2 hh2
      · exact A2.elim
/-! ### assignments -/
def notSD : Expr → Bool
  | .SetComp .. => false
  | .DictComp .. => false
  | _ => true
/-- the names that a target tuple stores from the right -/
def parNames (scope : Scope) (line : Nat) (ts : List Expr) : List Str := ts.filterMap fun
  | .Name id pos => if scope.names.lookup id == some .local && pos.line == line then some id else none
  | _ => none
def swNone (scope : Scope) : Expr → Expr → Bool
  | .Tuple ts _ _, .Tuple vs _ _ => !(ts.length == 2 || ts.length == 3) || vs.length != ts.length || (vs.any fun | .Starred .. => true | _ => false) ||
      ((parNames scope ((ts.head?.map (·.pos.line)).getD 0) ts).length != ts.length || (parNames scope ((ts.head?.map (·.pos.line)).getD 0) ts).eraseDups.length != (parNames scope ((ts.head?.map (·.pos.line)).getD 0) ts).length) || vs.all (foldedForSure 8)
  | .List .., _ => false
  | _, _ => true
def swPar (scope : Scope) (ts vs : List Expr) : Bool :=
  !(!(ts.length == 2 || ts.length == 3) || vs.length != ts.length) && !(vs.any fun | .Starred .. => true | _ => false) &&
    !((parNames scope ((ts.head?.map (·.pos.line)).getD 0) ts).length != ts.length || (parNames scope ((ts.head?.map (·.pos.line)).getD 0) ts).eraseDups.length != (parNames scope ((ts.head?.map (·.pos.line)).getD 0) ts).length) && !(vs.all (foldedForSure 8)) && !(vs.all (constantsAlone 8))
def swC (scope : Scope) : Expr → Expr → Bool
  | .Name t tp, .ListComp _ _ s p => scope.names.lookup t == some .local && tp.line == p.line && !(s.names.any fun (n, k) => n == t && (k == .local || k == .cell))
  | _, _ => false
theorem bk_of {env : PySem.Env} (h : env.scope.kind = .function) : env.blockKind = .function := by
  unfold PySem.Env.blockKind
  rw [h]; rfl
theorem sw_none {env : PySem.Env} {tg val : Expr} (hk : env.scope.kind = .function) (h : swNone env.scope tg val = true) : swappedStores [tg] val env = pure none := by
  unfold swappedStores
  cases tg <;> try rfl
  · simp [swNone] at h
  · cases val <;> try rfl
    rename_i ts k p vs k2 p2
    simp only [swNone, Bool.or_eq_true] at h
    have hb : (env.blockKind != .function) = false := by rw [bk_of hk]; rfl
    simp only [hb, Bool.or_false]
    rcases h with (((h | h) | h) | h) | h
    · exact if_pos (by rw [Bool.or_eq_true]; exact .inl h)
    · exact if_pos (by rw [Bool.or_eq_true]; exact .inr h)
    · refine ite_eq_left_iff.mpr fun _ => ?_
      exact if_pos h
    · refine ite_eq_left_iff.mpr fun _ => ite_eq_left_iff.mpr fun _ => ?_
      exact if_pos (by rw [Bool.or_eq_true]; exact h)
    · refine ite_eq_left_iff.mpr fun _ => ite_eq_left_iff.mpr fun _ => ite_eq_left_iff.mpr fun _ => ?_
      exact if_pos h
theorem sw_par {env : PySem.Env} {ts vs : List Expr} {k k2 : Nat} {p p2 : Pos} (hk : env.scope.kind = .function) (h : swPar env.scope ts vs = true) :
    swappedStores [.Tuple ts k p] (.Tuple vs k2 p2) env = pure (some (parNames env.scope ((ts.head?.map (·.pos.line)).getD 0) ts)) := by
  unfold swappedStores
  simp only [swPar, Bool.and_eq_true, Bool.not_eq_true'] at h
  obtain ⟨⟨⟨⟨h1, h2⟩, h3⟩, h4⟩, h5⟩ := h
  have hb : (env.blockKind != .function) = false := by rw [bk_of hk]; rfl
  simp only [hb, Bool.or_false]
  refine (if_neg (fun z => Bool.false_ne_true (h1.symm.trans z))).trans ?_
  refine (if_neg (fun z => Bool.false_ne_true (h2.symm.trans z))).trans ?_
  refine (if_neg (fun z => Bool.false_ne_true (h3.symm.trans z))).trans ?_
  refine (if_neg (fun z => Bool.false_ne_true (h4.symm.trans z))).trans ?_
  exact (if_neg (fun z => Bool.false_ne_true (h5.symm.trans z))).trans rfl
theorem sw_with {env : PySem.Env} {tg val : Expr} {line : Nat} (hk : env.scope.kind = .function) (h : notSD val = true) : swapsWithSole [tg] val line env = pure (swC env.scope tg val) := by
  have hb : (env.blockKind == .function) = true := by rw [bk_of hk]; rfl
  show swapsWith val (some tg) line env = _
  unfold swapsWith
  cases val <;> first | (simp [notSD] at h; done) | skip
  all_goals (cases tg <;> first | rfl | skip)
  simp only [hb, Bool.true_and]
  rfl
theorem sw_drop {env : PySem.Env} {val : Expr} {line : Nat} (h : notComp val = true) : swapsWith val none line env = pure false := by
  cases val <;> first | rfl | simp [notComp] at h
/-- target = value, the plain way -/
theorem s_asg {p : Pt} {e : E} {tg a : Expr} {pos : Pos} (g : Good γ X sc W) (hd : notSD a = true) (h1 : swC sc.scope tg a = false) (h2 : swNone sc.scope tg a = true) (hst : notStar tg = true) (he : PE X a (tI γ W hx (evE G me e))) (hg : PG X tg (tP γ hx (slots p) (pat G me p))) :
    PS X (.Assign [tg] a pos) (tSI γ W hx (evS G me fu (.asg p e))) := by
  have hk : X.env.scope.kind = .function := by rw [g.nm]; exact g.kd
  refine PS.imp (ps_asg he hg (by rw [sw_with hk hd, g.nm, h1]) (sw_none hk (by rw [g.nm]; exact h2)) (by rw [asg_one hst]; rfl)) fun D σ H h => ?_
  obtain ⟨ρ, env, st, hh, R, Re, A⟩ := h
  simp only [evS] at A
  refine ⟨ρ, env, st, hh, R, Re, (AftS.run R Re hh A).imp fun v H1 q => ?_⟩
  obtain ⟨ρ1, st1, x, e1, R1, T1, fr1, A1⟩ := q
  refine ⟨ρ, H, ρ1, env, st1, x, hh, e1, R1, Re.mono R e1, Re.old, T1, fr1, ?_⟩
  cases hm : pat G me p x env st1 with
  | ok env2 st2 => rw [hm] at A1; exact fun ρ' H' σ' e R' Re' hh' _ => A1 ρ' H' σ' e R' Re' hh'
  | exc _ _ => rw [hm] at A1; exact A1.elim
  | bad => rw [hm] at A1; exact A1.elim
/-- what a store to a name wants -/
theorem var_read {i : Nat} {v : V} {σ : L2.St} {H : Hp} {Q : L2.St → Hp → Prop} (hxT : ∀ o σ, hx o σ) (q : tP γ hx (slots (.v i)) (pat G me (.v i)) v σ H Q) : gName i v σ H Q := by
  obtain ⟨ρ0, H0, ρ, env, st, y, hh, e0, R, Re, Lo, T, fr, A⟩ := q
  simp only [pat] at A
  cases hm : mat y st with
  | ok z st1 =>
    rw [hm] at A
    simp only [Res.bind] at A
    obtain ⟨R1, r1⟩ := mat_ok R T hm
    split at A
    · rename_i env' he
      have Re1 : REnv γ hx (ρ ++ ownA y v) H env σ := Re.grow Lo fr
      obtain ⟨Re2, eh⟩ := setSl_env Re1 r1 he
      exact A _ _ _ (e0.mat fr) R1 Re2 (hxT _ _) same_set
    · exact A.elim
  | exc _ _ => exact absurd hm mat_noexc
  | bad => rw [hm] at A; exact A.elim
/-- name = [..], stored by the comprehension -/
theorem s_asgC {i : Nat} {own : List Nat} {pt : Pt} {it : MP.It} {ifs : List E} {e : E} {y : Str} {py : Pos} {elt tg iter : Expr} {is : List Expr} {scope : Scope} {pos spos : Pos} (g : Good γ X sc W) (hn : Hnd γ X sc G me hx W) (hT : sc.calm = true → ∀ o σ, hx o σ)
    (hy : chkP sc me (.v i) (.Name y py) = true) (hsw : swC sc.scope (.Name y py) (.ListComp elt [⟨tg, iter, is, 0⟩] scope pos) = true) (h : chkE sc me (.comp own pt it ifs e) (.ListComp elt [⟨tg, iter, is, 0⟩] scope pos) = true) (c : calE (CallX γ X G) (GcOk γ X.mg) me (.comp own pt it ifs e)) :
    PS X (.Assign [.Name y py] (.ListComp elt [⟨tg, iter, is, 0⟩] scope pos) spos) (tSI γ W hx (evS G me fu (.asg (.v i) (.comp own pt it ifs e)))) := by
  have hk : X.env.scope.kind = .function := by rw [g.nm]; exact g.kd
  simp only [chkE, Bool.and_eq_true, decide_eq_true_eq] at h
  obtain ⟨⟨⟨⟨⟨⟨⟨⟨⟨h1, h2⟩, h3⟩, h4⟩, h5⟩, h6⟩, h7⟩, h8⟩, h9⟩, h10⟩ := h
  simp only [chkP, Bool.and_eq_true, decide_eq_true_eq] at hy
  have hxT := hT h1
  have hkind : scope.kind = .function := (blkOk_by h5).kind
  have hT' : (sc.blk scope).calm = true → ∀ o σ, hx o σ := fun _ => hxT
  have nS : ∀ {W' : WX} {X' : Cx}, Hnd γ X' (sc.blk scope) G me hx W' := fun {W' X'} => Hnd.none rfl rfl rfl
  have hok : BlkOk X.N X.env.scope scope (ownP sc own) := by rw [g.hN, g.nm]; exact blkOk_by h5
  have hloc : X.env.scope.names.lookup y = some .local := by
    rw [g.nm]
    simp only [swC, Bool.and_eq_true, beq_iff_eq] at hsw
    exact hsw.1.1
  have hswE : swapsWith (.ListComp elt [⟨tg, iter, is, 0⟩] scope pos) (some (.Name y py)) spos.line X.env = pure true := by
    have z := sw_with (env := X.env) (tg := .Name y py) (val := .ListComp elt [⟨tg, iter, is, 0⟩] scope pos) (line := spos.line) hk rfl
    rw [g.nm, hsw] at z
    exact z
  have key := ps_setLc (X := X) (i := i) (y := y) (py := py) (elt := elt) (tg := tg) (iter := iter) (ifs := is) (scope := scope) (pos := pos) (spos := spos) (g.calm h1) g.nd (by rw [g.hN]; exact hy.1) hloc hswE (sndI it iter g hn hT h7 c.2.1) hok
    (fun s H C cl fp => sndP pt tg (g.blk hkind s H C cl fp) rfl nS hxT h8 c.1)
    (g := tP γ hx (slots pt) (fun x env st => pat G me pt x env st)) (tt := tIfs γ hx (evIfs G me ifs)) (te := tI γ noW hx (evE G me e))
    (fun s H C cl fp => ?_) (fun s H C cl fp => (sndE e elt (g.blk hkind s H C cl fp) nS hT' h10 c.2.2.2).1) (set_plain h2 X.env)
  · rw [h4] at key
    refine PS.imp key fun D σ H h => ?_
    obtain ⟨ρ, env, st, hh, R, Re, A⟩ := h
    simp only [evS] at A
    refine comp_read (Q := fun x H1 => gName i x σ H1 D.nx) hxT (fun j hj => ?_) ⟨ρ, env, st, hh, R, Re, (AftS.run R Re hh A).imp fun v H1 q => ?_⟩
    · have := List.all_eq_true.mp h6 j hj
      simpa using this
    · obtain ⟨ρ1, st1, x, e1, R1, T1, fr1, A1⟩ := q
      refine var_read (γ := γ) (G := G) (me := me) hxT ⟨ρ, H, ρ1, env, st1, x, hh, e1, R1, Re.mono R e1, Re.old, T1, fr1, ?_⟩
      cases hm : pat G me (.v i) x env st1 with
      | ok env2 st2 => rw [hm] at A1; exact fun ρ' H' σ' e R' Re' hh' _ => A1 ρ' H' σ' e R' Re' hh'
      | exc _ _ => rw [hm] at A1; exact A1.elim
      | bad => rw [hm] at A1; exact A1.elim
  · have k9 := sndEs ifs is (g.blk hkind s H C cl fp) nS hT' h9 c.2.2.1
    rcases ifs with _ | ⟨i1, _ | ⟨i2, ifs⟩⟩
    · cases k9; exact ifs_nil
    · cases k9 with
      | cons q1 q2 q3 => cases q3; exact ifs_one q2
    · simp at h3
/-- .. of two clauses -/
theorem s_asgC2 {i : Nat} {own own1 : List Nat} {pt pt1 : Pt} {it it1 : MP.It} {ifs ifs1 : List E} {e : E} {y : Str} {py : Pos} {elt tg iter tg1 iter1 : Expr} {is is1 : List Expr} {scope : Scope} {pos spos : Pos} (g : Good γ X sc W) (hn : Hnd γ X sc G me hx W) (hT : sc.calm = true → ∀ o σ, hx o σ)
    (hy : chkP sc me (.v i) (.Name y py) = true) (hsw : swC sc.scope (.Name y py) (.ListComp elt [⟨tg, iter, is, 0⟩, ⟨tg1, iter1, is1, 0⟩] scope pos) = true) (h : chkE sc me (.comp2 own own1 pt it ifs pt1 it1 ifs1 e) (.ListComp elt [⟨tg, iter, is, 0⟩, ⟨tg1, iter1, is1, 0⟩] scope pos) = true) (c : calE (CallX γ X G) (GcOk γ X.mg) me (.comp2 own own1 pt it ifs pt1 it1 ifs1 e)) :
    PS X (.Assign [.Name y py] (.ListComp elt [⟨tg, iter, is, 0⟩, ⟨tg1, iter1, is1, 0⟩] scope pos) spos) (tSI γ W hx (evS G me fu (.asg (.v i) (.comp2 own own1 pt it ifs pt1 it1 ifs1 e)))) := by
  have hk : X.env.scope.kind = .function := by rw [g.nm]; exact g.kd
  simp only [chkE, comp2B, Bool.and_eq_true, decide_eq_true_eq] at h
  obtain ⟨⟨⟨⟨⟨⟨⟨⟨⟨⟨⟨⟨⟨⟨⟨⟨h1, h2⟩, h2'⟩, h3⟩, h3'⟩, h4⟩, h5⟩, h6⟩, h6'⟩, hv⟩, h7⟩, h8⟩, h9⟩, k7⟩, k8⟩, k9⟩, h10⟩ := h
  simp only [chkP, Bool.and_eq_true, decide_eq_true_eq] at hy
  have hxT := hT h1
  have hkind : scope.kind = .function := (blkOk_by h5).kind
  have hT' : (sc.blk scope).calm = true → ∀ o σ, hx o σ := fun _ => hxT
  have nS : ∀ {W' : WX} {X' : Cx}, Hnd γ X' (sc.blk scope) G me hx W' := fun {W' X'} => Hnd.none rfl rfl rfl
  have hok : BlkOk X.N X.env.scope scope (ownP sc own) := by rw [g.hN, g.nm]; exact blkOk_by h5
  have hloc : X.env.scope.names.lookup y = some .local := by
    rw [g.nm]
    simp only [swC, Bool.and_eq_true, beq_iff_eq] at hsw
    exact hsw.1.1
  have hswE : swapsWith (.ListComp elt [⟨tg, iter, is, 0⟩, ⟨tg1, iter1, is1, 0⟩] scope pos) (some (.Name y py)) spos.line X.env = pure true := by
    have z := sw_with (env := X.env) (tg := .Name y py) (val := .ListComp elt [⟨tg, iter, is, 0⟩, ⟨tg1, iter1, is1, 0⟩] scope pos) (line := spos.line) hk rfl
    rw [g.nm, hsw] at z
    exact z
  have key := ps_setLc2 (X := X) (i := i) (y := y) (py := py) (elt := elt) (tg := tg) (iter := iter) (ifs := is) (tg1 := tg1) (iter1 := iter1) (ifs1 := is1) (scope := scope) (pos := pos) (spos := spos) (vs1 := own1) (g.calm h1) g.nd (by rw [g.hN]; exact hy.1) hloc hswE (sndI it iter g hn hT h7 c.2.1) hok
    (fun i hi => by rw [h4]; have := List.all_eq_true.mp hv i hi; simpa using this)
    (fun s H C cl fp => sndP pt tg (g.blk hkind s H C cl fp) rfl nS hxT h8 c.1)
    (g := tP γ hx (slots pt) (fun x env st => pat G me pt x env st)) (tt := tIfs γ hx (evIfs G me ifs)) (te := tI γ noW hx (evE G me e))
    (g1 := tP γ hx (slots pt1) (fun x env st => pat G me pt1 x env st)) (tt1 := tIfs γ hx (evIfs G me ifs1)) (wi1 := tIt γ noW hx (evIt G me it1))
    (fun s H C cl fp => ifs_few h3 (sndEs ifs is (g.blk hkind s H C cl fp) nS hT' h9 c.2.2.1)) (fun s H C cl fp => sndI it1 iter1 (g.blk hkind s H C cl fp) nS hT' k7 c.2.2.2.2.1)
    (fun s H C cl fp => sndP pt1 tg1 (g.blk hkind s H C cl fp) rfl nS hxT k8 c.2.2.2.1) (fun s H C cl fp => ifs_few h3' (sndEs ifs1 is1 (g.blk hkind s H C cl fp) nS hT' k9 c.2.2.2.2.2.1))
    (fun s H C cl fp => (sndE e elt (g.blk hkind s H C cl fp) nS hT' h10 c.2.2.2.2.2.2).1) (set_plain h2 X.env) (fun env x => set_plain h2' env x)
  rw [h4] at key
  refine PS.imp key fun D σ H h => ?_
  obtain ⟨ρ, env, st, hh, R, Re, A⟩ := h
  simp only [evS] at A
  refine comp2_read (Q := fun x H1 => gName i x σ H1 D.nx) hxT (fun j hj => by have := List.all_eq_true.mp h6 j hj; simpa using this) (fun j hj => by have := List.all_eq_true.mp h6' j hj; simpa using this) ⟨ρ, env, st, hh, R, Re, (AftS.run R Re hh A).imp fun v H1 q => ?_⟩
  obtain ⟨ρ1, st1, x, e1, R1, T1, fr1, A1⟩ := q
  refine var_read (γ := γ) (G := G) (me := me) hxT ⟨ρ, H, ρ1, env, st1, x, hh, e1, R1, Re.mono R e1, Re.old, T1, fr1, ?_⟩
  cases hm : pat G me (.v i) x env st1 with
  | ok env2 st2 => rw [hm] at A1; exact fun ρ' H' σ' e R' Re' hh' _ => A1 ρ' H' σ' e R' Re' hh'
  | exc _ _ => rw [hm] at A1; exact A1.elim
  | bad => rw [hm] at A1; exact A1.elim
/-- slots written one after the other -/
def setsV : List Nat → List V → L2.St → L2.St
  | i :: is, v :: vs, σ => setsV is vs (σ.set i (some v))
  | _, _, σ => σ
theorem pats_vars {ρ : List Addr} {H : Hp} : ∀ {is : List Nat} {xs : List IV} {vs : List V} {env env' : Env} {st st' : Store} {σ : L2.St}, REnv γ hx ρ H env σ → RepVs γ ρ H xs vs → pats G me (is.map .v) xs env st = .ok env' st' → REnv γ hx ρ H env' (setsV is vs σ) ∧ st' = st ∧ env'.hx = env.hx ∧ vs.length = is.length
  | [], [], vs, env, env', st, st', σ, Re, rv, h => by
    simp only [List.map_nil, pats, Res.ok.injEq] at h
    simp only [RepVs] at rv
    subst rv
    rw [← h.1, ← h.2]
    exact ⟨Re, rfl, rfl, rfl⟩
  | [], _ :: _, vs, env, env', st, st', σ, Re, rv, h => by simp [pats] at h
  | _ :: _, [], vs, env, env', st, st', σ, Re, rv, h => by simp [pats] at h
  | i :: is, x :: xs, vs, env, env', st, st', σ, Re, rv, h => by
    simp only [RepVs] at rv
    obtain ⟨w, ws, rfl, r1, r2⟩ := rv
    simp only [List.map_cons, pats, pat, mat, Res.bind] at h
    cases hs : setSl env i x with
    | none => rw [hs] at h; cases h
    | some env1 =>
      rw [hs] at h
      obtain ⟨Re1, eh⟩ := setSl_env Re r1 hs
      obtain ⟨q1, q2, q3, q4⟩ := pats_vars Re1 r2 h
      exact ⟨q1, q2, q3.trans eh, by simp [q4]⟩
theorem par_read {is : List Nat} {es : List E} {D : Ends} {σ : L2.St} {H : Hp} (hxT : ∀ o σ, hx o σ) (h : tSI γ W hx (evS G me fu (.asg (.tup (is.map .v)) (.tup es))) D σ H) :
    tIL γ W hx (evEs G me es) σ H fun vs H1 => vs.length = is.length ∧ D.nx (setsV is vs σ) H1 := by
  obtain ⟨ρ, env, st, hh, R, Re, A⟩ := h
  simp only [evS, evE] at A
  refine ⟨ρ, env, st, hh, R, Re, ?_⟩
  cases hm : evEs G me es env st with
  | bad => rw [hm] at A; exact A.elim
  | exc x s1 => rw [hm] at A; exact fun ρ' H' cls d e R' X' => A ρ' H' σ cls d e R' (Re.mono R e) hh X'
  | ok xs s1 =>
    rw [hm] at A
    intro ρ1 H1 vs e1 R1 T1 n1 o1
    simp only [Res.bind] at A
    cases hm2 : mats xs s1 with
    | bad => rw [hm2] at A; exact A.elim
    | exc _ _ => exact absurd hm2 mats_noexc
    | ok ys s2 =>
      rw [hm2] at A
      simp only at A
      obtain ⟨R2, r2⟩ := mats_ok R1 T1 n1 hm2
      split at A
      · simp only [Res.run, pat] at A
        cases hu : unpack s2 (.v (.tup ys)) (is.map Pt.v).length with
        | none => rw [hu] at A; exact A.elim
        | some zs =>
          rw [hu] at A
          have hz : zs = ys := by
            unfold unpack itemsLT at hu
            simp only at hu
            split at hu
            · cases hu; rfl
            · cases hu
          subst hz
          simp only at A
          cases hp : pats G me (is.map .v) zs env s2 with
          | bad => rw [hp] at A; exact A.elim
          | exc _ _ => rw [hp] at A; exact A.elim
          | ok env' s3 =>
            rw [hp] at A
            have Re2 : REnv γ hx (ρ1 ++ ownAs xs vs) H1 env σ := (Re.mono R e1).grow Re.old o1
            obtain ⟨q1, q2, q3, q4⟩ := pats_vars Re2 r2 hp
            subst q2
            exact ⟨q4, A _ H1 _ (e1.mat o1) R2 q1 (hxT _ _)⟩
      · exact A.elim
end
end MP

set_option linter.all false
set_option autoImplicit false
set_option Elab.async false
set_option maxRecDepth 100000
namespace MP
open PySem L2 PySem.Spec PyProof.Rows
section
variable {γ : Gm} {X : Cx} {sc : Sc} {W : WX} {hx : HX} {G : Orc} {me : FnDef} {fu : Nat}
theorem AftS.runK {ρ : List Addr} {H : Hp} {env : Env} {st : Store} {σ : L2.St} {r : Res (List IV)} {f : List IV → Store → RS} {D : Ends} (Re : REnv γ hx ρ H env σ) (R : Rep γ ρ st H) (hh : hx env.hx σ) (h : AftS γ hx ρ H (r.run env f) D W) :
    AftK γ ρ H r (fun v H1 => ∃ ρ1 st1 xs p kk, v = .ref p ∧ Ext ρ H ρ1 H1 ∧ Rep γ ρ1 st1 H1 ∧ H1 p = some (.tup (List.map kV kk)) ∧ keysOf xs = some kk ∧ AftS γ hx ρ H (f xs st1) D W) (fun cls d H' => W cls d σ H') := by
  cases r with
  | ok x st => exact fun ρ' H' p kk e R T o => ⟨ρ', st, x, p, kk, rfl, e, R, T, o, h⟩
  | exc x st' => exact fun ρ' H' cls d e R' X' => h ρ' H' σ cls d e R' (Re.mono R e) hh X'
  | bad => exact h
theorem s_dput {a e : E} {ks : List E} {o v : Expr} {as : List Expr} {k : Nat} {tp p' pos : Pos} (g : Good γ X sc W) (hd : notSD v = true) (h1 : swC sc.scope (.Subscript o (.Tuple as k tp) p') v = false) (ha : PE X o (tI γ W hx (evE G me a))) (h : AllE γ X W hx G me ks as) (hs : as.all notStar = true) (he : PE X v (tI γ W hx (evE G me e))) :
    PS X (.Assign [.Subscript o (.Tuple as k tp) p'] v pos) (tSI γ W hx (evS G me fu (.dput a ks e))) := by
  have hk : X.env.scope.kind = .function := by rw [g.nm]; exact g.kd
  refine PS.imp (ps_dput g.hu1 ha (s_key h hs) he (show swapsWithSole [.Subscript o (.Tuple as k tp) p'] v pos.line X.env = pure false from (sw_with hk hd).trans (by rw [g.nm, h1]))) fun D σ H q => ?_
  obtain ⟨ρ, env, st, hh, R, Re, A⟩ := q
  simp only [evS] at A
  refine ⟨ρ, env, st, hh, R, Re, (AftS.run R Re hh A).imp fun vv H1 q => ?_⟩
  obtain ⟨ρ1, st1, y, e1, R1, T1, fr1, A1⟩ := q
  have Re1 := Re.mono R e1
  cases hm : mat y st1 with
  | exc _ _ => exact absurd hm mat_noexc
  | bad => rw [hm] at A1; exact A1.elim
  | ok z st1' =>
    rw [hm] at A1
    simp only [Res.run] at A1
    obtain ⟨R1', r1⟩ := mat_ok R1 T1 hm
    have Re1' : REnv γ hx (ρ1 ++ ownA y vv) H1 env σ := Re1.grow Re.old fr1
    have A1 := AftS.ext A1 (e1.mat fr1)
    refine ⟨_, env, st1', hh, R1', Re1', (AftS.run R1' Re1' hh A1).imp fun vd H2 q => ?_⟩
    obtain ⟨ρ2, st2, x, e2, R2, T2, -, A2⟩ := q
    have Re2 := Re1'.mono R1' e2
    have A2 := A2.ext e2
    refine ⟨ρ2, env, st2, hh, R2, Re2, (AftS.runK Re2 R2 hh A2).imp ?_⟩
    rintro vk H3 ⟨ρ3, st3, xs, p, kk, rfl, e3, R3, hp, hkk, A3⟩
    have A3 := A3.ext e3
    have Re3 := Re2.mono R2 e3
    have T3 := T2.mono R2 e3
    have r3 := (r1.mono R1' e2).mono R2 e3
    split at A3
    · rename_i r kvs hd3
      split at A3
      · rename_i hl
        obtain ⟨b, kks, rfl, hb, g1, g2, -⟩ := dic_at R3 T3 hd3
        have hbm := List.mem_of_getElem? hb
        have eu : Ext ρ3 H3 ρ3 (upd H3 b (.dT (putK kks kk vv))) := Ext.upd hbm
        refine ⟨b, _, rfl, DPut.t g1 hp (by rw [g2.length, sizeLine_n]; exact hl), ?_⟩
        exact A3 ρ3 _ σ eu (R3.set hb ⟨_, upd_same, (kPut_rep hkk r3 g2).mono R3 eu⟩) (Re3.mono R3 eu) hh
      · exact A3.elim
    · exact A3.elim
theorem asKey_run {r : Res TV} {env : Env} {f : IV → Store → RS} : (asKey r).run env f = r.run env fun x st => match x with | .v k => f k st | _ => .bad := by
  cases r with
  | ok x st => cases x <;> rfl
  | exc _ _ => rfl
  | bad => rfl
/-- what is stored under a key -/
theorem kput_of {ρ : List Addr} {st st' : Store} {H : Hp} {x : TV} {v w u : V} {k z : IV} (R : Rep γ ρ st H) (T : RepT γ ρ H x v) (rk : RepV γ ρ H k w) (rz : RepV γ ρ H z u) (h : kputO x k z st = some st') :
    ∃ a H', v = .ref a ∧ DPut H a w u H' ∧ Ext ρ H ρ H' ∧ Rep γ ρ st' H' := by
  unfold kputO at h
  split at h
  · rename_i r
    split at h
    · rename_i kvs e
      split at h
      · rename_i xs
        split at h
        · rename_i hk
          simp only [Bool.and_eq_true, decide_eq_true_eq] at hk
          cases h
          obtain ⟨p, kk, rfl, hp, ek⟩ := keyT_at hk.1 rk
          obtain ⟨b, ks, rfl, hb, g1, g2, -⟩ := dic_at (x := .v (.ref r)) (r := r) (kvs := kvs) R T (by simp [dicAt, e])
          have eu : Ext ρ H ρ (upd H b (.dT (putK ks kk u))) := Ext.upd (List.mem_of_getElem? hb)
          exact ⟨b, _, rfl, DPut.t g1 hp (by rw [g2.length, sizeLine_n]; exact hk.2), eu, R.set hb ⟨_, upd_same, (kPut_rep ek rz g2).mono R eu⟩⟩
        · cases h
      · cases h
    · rename_i kvs e
      split at h
      · rename_i hk
        simp only [Bool.and_eq_true, decide_eq_true_eq] at hk
        cases h
        obtain ⟨kk, ek, rfl⟩ := key1_rep hk.1 rk
        obtain ⟨b, ks, rfl, hb, g1, g2⟩ := dk_at R T e
        have eu : Ext ρ H ρ (upd H b (.dK (putK ks kk u))) := Ext.upd (List.mem_of_getElem? hb)
        exact ⟨b, _, rfl, DPut.k g1 (by rw [g2.length, sizeLine_n]; exact hk.2), eu, R.set hb ⟨_, upd_same, (kPut1_rep ek rz g2).mono R eu⟩⟩
      · cases h
    · cases h
  · cases h
theorem s_kput {a k e : E} {o i v : Expr} {p' pos : Pos} (g : Good γ X sc W) (hd : notSD v = true) (h1 : swC sc.scope (.Subscript o i p') v = false) (ha : PE X o (tI γ W hx (evE G me a))) (hk : PE X i (tI γ W hx (evE G me k))) (he : PE X v (tI γ W hx (evE G me e))) :
    PS X (.Assign [.Subscript o i p'] v pos) (tSI γ W hx (evS G me fu (.kput a k e))) := by
  have hkf : X.env.scope.kind = .function := by rw [g.nm]; exact g.kd
  refine PS.imp (ps_dput g.hu1 ha hk he (show swapsWithSole [.Subscript o i p'] v pos.line X.env = pure false from (sw_with hkf hd).trans (by rw [g.nm, h1]))) fun D σ H q => ?_
  obtain ⟨ρ, env, st, hh, R, Re, A⟩ := q
  simp only [evS, asKey_run] at A
  refine ⟨ρ, env, st, hh, R, Re, (AftS.run R Re hh A).imp fun vv H1 q => ?_⟩
  obtain ⟨ρ1, st1, y, e1, R1, T1, fr1, A1⟩ := q
  have Re1 := Re.mono R e1
  cases hm : mat y st1 with
  | exc _ _ => exact absurd hm mat_noexc
  | bad => rw [hm] at A1; exact A1.elim
  | ok z st1' =>
    rw [hm] at A1
    simp only [Res.run] at A1
    obtain ⟨R1', r1⟩ := mat_ok R1 T1 hm
    have Re1' : REnv γ hx (ρ1 ++ ownA y vv) H1 env σ := Re1.grow Re.old fr1
    have A1 := AftS.ext A1 (e1.mat fr1)
    refine ⟨_, env, st1', hh, R1', Re1', (AftS.run R1' Re1' hh A1).imp fun vd H2 q => ?_⟩
    obtain ⟨ρ2, st2, x, e2, R2, T2, -, A2⟩ := q
    have Re2 := Re1'.mono R1' e2
    have A2 := A2.ext e2
    refine ⟨ρ2, env, st2, hh, R2, Re2, (AftS.run R2 Re2 hh A2).imp fun vk H3 q => ?_⟩
    obtain ⟨ρ3, st3, kx, e3, R3, T3, -, A3⟩ := q
    have A3 := A3.ext e3
    cases kx with
    | v kv =>
      simp only at A3
      cases hp : kputO x kv z st3 with
      | none => rw [hp] at A3; exact A3.elim
      | some st4 =>
        rw [hp] at A3
        obtain ⟨b, H4, rfl, d, eu, R4⟩ := kput_of R3 (T2.mono R2 e3) T3 ((r1.mono R1' e2).mono R2 e3) hp
        exact ⟨b, H4, rfl, d, A3 ρ3 H4 σ eu R4 ((Re2.mono R2 e3).mono R3 eu) hh⟩
    | _ => exact A3.elim
end
end MP

set_option linter.all false
set_option autoImplicit false
set_option Elab.async false
set_option maxRecDepth 100000
set_option maxHeartbeats 2000000
namespace MP
open PySem L2 PySem.Spec PyProof.Rows PySem.W NdefX
/-! ### an own exception's __init__ that says super().__init__(x); self.f = x -/
section
variable {X : Cx} {pins : List (Addr × Obj)} {σ : L2.St} {H : Hp} {s : Shared} {a C u : Addr} {us : List Value} {Q : Value → Shared → Prop} {A : Around} {E : Value → Shared → Prop}
theorem mw_call (T : OexC X.K C) (I : Inv X pins σ H s) (e : H a = some (exo a C none)) (hu : s.heap.get? u = some (kxs_mw "ValueError.__init__" a)) (hl : us.length ≤ sizeLine) (h : ∀ s', Inv X pins σ H s' → Q .none s') :
    wpAny (model X.prog X.w) A (call (.ref u) us) Q E s := by
  obtain ⟨nm, q, N, bs, bm, sn, sub, ab, col, dd, k0, k1, k2, k3, k5, hC, hbm⟩ := T.cls
  obtain ⟨t1, ho⟩ := exo_at I.hok e
  obtain ⟨hp, g, d, t, os⟩ := s
  have FB := F.excBase_ValueError
  refine wpAny_call (codeAny_of_tree ?_)
  show wpAny _ A.in1 (callAny (.ref u) ⟨us, []⟩) _ _ _
  simp only [callAny]
  refine wpAny_bind (wpAny_load hu ?_)
  have m1 : (Value.type "method-wrapper" == Value.type "method" || Value.type "method-wrapper" == Value.type "builtin_function_or_method" || Value.type "method-wrapper" == Value.type "method-wrapper") = true := by decide
  simp only [kxs_mw, m1, if_true]
  refine KFB.if_so (by decide) ?_
  refine wpAny_bind (check_bound_init FB.toExcCallFacts (I.kIn _ _ hC) ho rfl ?_)
  refine wpAny_bind (wpAny_pure (wpAny_pure ?_))
  refine ⟨plainId_quiet FB.init.plain _, codeAny_builtin FB.initEntry ?_⟩
  refine exc_init_tree (cls := .ref C) (t0 := t1) (dv := none) (c2 := .none) (c3 := .none) (b4 := .bool false) ho hl fun h' k e' t' => ?_
  have J := I.write (t' := t) (x := a) (e := a) (o := exo a C none) (by rw [e]; exact True.intro) (.inl rfl) k ⟨_, e'⟩ (exo_ok e')
  have eu : upd H a (exo a C none) = H := by
    funext b
    by_cases hb : b = a
    · rw [hb, upd_same, e]
    · rw [upd_ne hb]
  rw [eu] at J
  exact h _ J
/-- the text: super().__init__(x) -/
abbrev supE (x : Str) (p0 p1 p2 p3 p4 : Pos) : Expr := .Call (.Attribute (.Call (.Name "super" p0) [] [] p1) "__init__" p2) [.Name x p3] [] p4
theorem hev_gen (x : Str) (p0 p1 p2 p3 p4 : Pos) (env : PySem.Env) (hl : (p2.endLine == p4.line) = true) : eval (supE x p0 p1 p2 p3 p4) env = (do
      let ov ← attributeBase (.Call (.Name "super" p0) [] [] p1) "__init__" env (eval (.Call (.Name "super" p0) [] [] p1) env)
      standAt p2.atName
      let (g, first) ← holding [ov] (getMethod ov "__init__" (do return (← importBound (.Call (.Name "super" p0) [] [] p1) env).getD true))
      PySem.callWith p4 g first (backTo p4 (starEach [.Name x p3] env)) []) := by
  have e : eval (supE x p0 p1 p2 p3 p4) env = (do
    let ov ← attributeBase (.Call (.Name "super" p0) [] [] p1) "__init__" env (eval (.Call (.Name "super" p0) [] [] p1) env)
    standAt p2.atName
    methodCall (.Call (.Name "super" p0) [] [] p1) "__init__" p2 p4 env ov 1 (backTo p4 (starEach [.Name x p3] env)) (backToKw p4 (keywordEach [] env))) := by rw [eval]; rfl
  rw [e]
  have c : methodCallPos (methodCallForm 1 (backTo p4 (starEach [.Name x p3] env)) (backToKw p4 (keywordEach [] env))) (.Call (.Name "super" p0) [] [] p1) env p2 p4 = pure p4 := by
    unfold methodCallPos
    rw [hl, Bool.or_true, if_pos rfl]
  unfold methodCall
  rw [c]
  rfl
/-- what the written part says of such an __init__ -/
structure SupOk (X : Cx) (C : Addr) (sf x : Str) : Prop where
  ex : ∃ (D f cda cc : Addr) (cdD : ClassData) (fd : FuncData) (ar : Arg) (vs : Array Value) (file : Str) (tf : Tok) (fc ccl cl : Value) (od cdd cld : Option Addr) (osl ccs csl : Array (Option Value)),
    X.env.func = some f ∧ X.K.lookup f = some ⟨fc, od, .func fd, osl⟩ ∧ (fd.params.posonlyargs ++ fd.params.args).head? = some ar ∧ ar.arg = sf ∧
    X.env.code = .ref cda ∧ X.K.lookup cda = some ⟨ccl, cdd, .fields vs, ccs⟩ ∧ vs[2]? = some (.str file tf) ∧ ((X.prog.main.file : Str) == file) = true ∧
    X.env.cells.lookup ("__class__" : Str) = some cc ∧ X.K.lookup cc = some ⟨cl, cld, .cell (some (.ref D)), csl⟩ ∧ clsIn X.K D = some cdD ∧ mroIn X.K C (.ref D) = some true ∧ ks_superIn X.K C D "__init__" = some (some (.builtin "ValueError.__init__"))
  top : (X.prog.main.scope.names.lookup ("super" : Str)).isSome = false
  ks : X.env.kindOf "super" = some .globalImplicit
  kc : X.env.kindOf "__class__" = some .free
  kself : X.env.kindOf sf = some .local
  kx : X.env.kindOf x = some .local
  mg : X.mg "super" = none
  tp : nsIn X.K cStatics "thirdparty.any" = some none
  sub : subIn X.K (.ref C) (.type "ValueError") = some true
  int : interactive X.env = false
  nd : (x == ("__debug__" : Str)) = false
theorem st_super {body : List Stmt} {C : Addr} {self x : Str} {y : L2.V} {p0 p1 p2 p3 p4 p5 : Pos} {Qf : Flow → Shared → Prop} {i j : Nat}
    (T : OexC X.K C) (Z : SupOk X C self x) (I : Inv X pins σ H s) (ea : H a = some (exo a C none)) (hN : X.N[i]? = some self) (hsl : σ[i]? = some (some (.ref a))) (hNx : X.N[j]? = some x) (hslx : σ[j]? = some (some y))
    (hsw : swapsWith (supE x p0 p1 p2 p3 p4) none p5.line X.env = pure false) (pl : Sem Bool)
    (hev : eval (supE x p0 p1 p2 p3 p4) X.env = (do
      let ov ← attributeBase (.Call (.Name "super" p0) [] [] p1) "__init__" X.env (eval (.Call (.Name "super" p0) [] [] p1) X.env)
      standAt p2.atName
      let (f, first) ← holding [ov] (getMethod ov "__init__" pl)
      PySem.callWith p4 f first (backTo p4 (starEach [.Name x p3] X.env)) []))
    (hst : starEach [.Name x p3] X.env = (false, eval (.Name x p3) X.env) :: starEach [] X.env) (hn : ∀ s', Inv X pins σ H s' → Qf .next s') :
    _root_.PySem.wpAt (model X.prog X.w) X.A (.func body X.env) (exec (.Expr (supE x p0 p1 p2 p3 p4) p5) X.env) Qf X.xe s := by
  obtain ⟨D, f, cda, cc, cdD, fd, ar, vs, file, tf, fc, ccl, cl, od, cdd, cld, osl, ccs, csl, h1, h2, h3, rfl, h5, h6, h7, h8, h9, h10, h11, h12, h13⟩ := Z.ex
  obtain ⟨t1, hoa⟩ := exo_at I.hok ea
  obtain ⟨hp, gn, dr, tk, os⟩ := s
  have KX : X.K.In hp := I.kIn
  obtain ⟨oD, hD1, hD2⟩ : ∃ oD, hp.get? D = some oD ∧ oD.data = .cls cdD := by
    unfold clsIn at h11
    split at h11
    · rename_i c d cd' sl ho
      cases h11
      exact ⟨_, KX _ _ ho, rfl⟩
    · cases h11
  have loc : ∀ {k : Nat} {z : Str} {v : L2.V}, X.N[k]? = some z → σ[k]? = some (some v) → X.env.kindOf z = some .local → ∃ u m, RelV v u ∧ hp.Ns X.env.locals m ∧ m z = some u := fun {k z v} e1 e2 e3 => by
    obtain ⟨m, hm, hl⟩ := I.loc
    obtain ⟨u, r, lk⟩ := hl k z v e1 e2 (.inl e3)
    rcases lk with ⟨-, q⟩ | ⟨q | q, -⟩
    · exact ⟨u, m, r, hm, q⟩
    · rw [e3] at q; cases q
    · rw [e3] at q; cases q
  obtain ⟨us, ms, rs, ns1, ns2⟩ := loc hN hsl Z.kself
  obtain rfl : us = Value.ref a := rs
  obtain ⟨mb, b1, b2⟩ := I.mod.blt
  refine ks_wpAt_Expr_any ?_ Z.int hsw
  refine ks_wpAt_MethodCall (pl := pl) ?_ hev
  refine ks_wpAt_super_base (env := X.env) Z.ks Z.kc (by decide) h1 (KX _ _ h2) rfl h3 h5 (KX _ _ h6) rfl h7 h8 Z.top ?_
  refine ks_loadName_global I.ok.kind Z.ks (Calls.loadGlobal_builtin (by rw [I.ok.glob]; exact I.mod.glob.keeps I.bk) Z.mg (by rw [I.ok.blt]; exact b1.keeps I.bk) ((b2 _ (by decide)).trans (by rfl)) ⟨rfl, ?_⟩)
  refine wpAny_loadName_free I.ok.kind Z.kc h9 ⟨_, KX _ _ h10, rfl⟩ ?_
  refine wpAny_loadName_local I.ok.kind Z.kself ns1 ns2 ?_
  refine ks_wpAny_isType_cls hD1 hD2 ⟨rfl, ?_⟩
  refine ks_wpAny_call_super hD1 hD2 hoa rfl (fun c z => by cases z) (looks_mroIn KX h12) fun h' e k => ?_
  have I1 : Inv X pins σ H ⟨h', gn, dr, tk, os⟩ := I.kept (t' := tk) k
  have K1 : X.K.In h' := I1.kIn
  obtain ⟨t2, hoa1⟩ := exo_at I1.hok ea
  have IA : InstAt h' a ({ cls := .ref C, dict := none, data := .fields #[.ref t2, .none, .none, .none, .bool false, .none] } : Obj) C none := ⟨hoa1, rfl, rfl, trivial⟩
  have hI : Looks (model X.prog X.w) h' (isInstance (.ref a) (.type "ValueError")) true := IA.type.andThen (looks_subIn K1 Z.sub)
  cases hc : clsIn X.K C with
  | none => unfold ks_superIn at h13; rw [hc] at h13; cases h13
  | some cd =>
    unfold ks_superIn at h13
    rw [hc] at h13
    refine kxs_getMethod kxs_ValueError e (looks_opaque K1 Z.tp) (l₀ := cd.mro) (fun A Q E s k q => wpAny_bind ((looks_clsIn K1 hc) A _ E s k (wpAny_pure q))) rfl K1 h13 hI (ks_ne K1 IA hc) (by decide) ?_
    have kp : ∀ b o, h'.get? b = some o → (h'.push (kxs_mw "ValueError.__init__" a)).get? b = some o := fun b o z => Heap.get?_push_of_some _ z
    have I2 : Inv X pins σ H ⟨h'.push (kxs_mw "ValueError.__init__" a), gn, dr, tk + 1, os⟩ := I1.kept (t' := tk + 1) kp
    have hu : (h'.push (kxs_mw "ValueError.__init__" a)).get? h'.objs.size = some (kxs_mw "ValueError.__init__" a) := Heap.get?_push_at rfl rfl
    have locB : ∃ u m, RelV y u ∧ (h'.push (kxs_mw "ValueError.__init__" a)).Ns X.env.locals m ∧ m x = some u := by
      obtain ⟨m, hm, hl⟩ := I2.loc
      obtain ⟨u, r, lk⟩ := hl j x y hNx hslx (.inl Z.kx)
      rcases lk with ⟨-, q⟩ | ⟨q | q, -⟩
      · exact ⟨u, m, r, hm, q⟩
      · rw [Z.kx] at q; cases q
      · rw [Z.kx] at q; cases q
    obtain ⟨ux, mx, rx, nx1, nx2⟩ := locB
    show wpAny _ _ (PySem.callWith p4 (.ref h'.objs.size) [] (backTo p4 (starEach [.Name x p3] X.env)) []) _ _ _
    have hs0 : starEach [] X.env = [] := rfl
    rw [hst, hs0]
    refine kxs_callWith (i := "ValueError.__init__") (x := a) rfl ?_
    refine Calls.evalArgs_plain ?_
    refine Calls.spliced_cons (wpAny_Name (wpAny_loadName_local I.ok.kind Z.kx nx1 nx2 ?_) Z.nd)
    refine Calls.spliced_nil ⟨hu, ?_⟩
    refine mw_call T I2 ea hu (by rw [sizeLine_eq]; show (1 : Nat) ≤ 16777216; decide) fun s' J => hn s' J
end
/-- what such an __init__ promises -/
def spInit (C : Addr) (fld : Str) : Sp := fun vs H Q _ => ∃ (a : Addr) (y : L2.V), vs = [.ref a, y] ∧ H a = some (exo a C none) ∧ ∀ dx, H dx = none → dx ≠ a → Q .non (upd (upd H dx (exd dx [(fld, y)])) a (exo a C (some dx)))
/-- the __init__, called -/
def InitRun (P : Program) (w : World) (K : PySem.W.Frag) (mg : Str → Option Value) (base : Heap) (f : Addr) (fd : FuncData) (sf x : Str) (C : Addr) (fld : Str) : Prop :=
  ∀ (A : Around) (outer : List PySem.Env) (s : Shared) (H : Hp) (args : Args) (us : List Value) (vs : List L2.V) (Q : VK) (E : XK), A.handled = none → A.depth < recursionLimit → Env0 P w K mg base A outer s H → BindsTo s fd args ([sf, x].zip us) → Vals vs us → spInit C fld vs H Q E →
    codeAny (model P w) A (.call (.ref f) args) (CR (L2.CX P w) outer P w H s Q E) s
abbrev initF (qual : Str) (params : Arguments) (body : List Stmt) (scope : Scope) (cc cda : Addr) : NF := ⟨"__init__", qual, params, body, scope, [("__class__", cc)], cda⟩
theorem init_run {P : Program} {w : World} {K : PySem.W.Frag} {mg : Str → Option Value} {base : Heap} {f C cc cda : Addr} {qual sf x fld : Str} {params : Arguments} {scope : Scope} {doc pm ct oc : Value} {od : Option Addr} {osl : Array (Option Value)} {p0 p1 p2 p3 p4 p5 q1 q2 q3 q4 : Pos}
    (hline : (p2.endLine == p4.line) = true)
    (lk : K.lookup f = some ⟨oc, od, .func ((initF qual params [.Expr (supE x p0 p1 p2 p3 p4) p5, .Assign [.Attribute (.Name sf q1) fld q2] (.Name x q3) q4] scope cc cda).fd doc pm ct), osl⟩) (hcd : codeIn K (.ref cda) qual = true)
    (S : NScope [sf, x, "__class__"] [sf, x] ["__class__"] scope) (T : OexC K C) (hfld : PySem.W.findIn K (.ref C) fld = some none) (hcc : ∃ v, ∀ h : Heap, K.In h → h.IsCell cc v) (hbc : K.lookup cc ≠ none)
    (Z : ∀ (A : Around) (outer : List PySem.Env) (s : Shared) (H : Hp) (E : XK), SupOk (ncx (L2.CX P w) P w K mg base [sf, x, "__class__"] (initF qual params [.Expr (supE x p0 p1 p2 p3 p4) p5, .Assign [.Attribute (.Name sf q1) fld q2] (.Name x q3) q4] scope cc cda) f A outer s H E) C sf x)
    (n1 : (sf == ("__debug__" : Str)) = false) (n2 : (sf == ("__classdict__" : Str)) = false) (n3 : (x == ("__classdict__" : Str)) = false) :
    InitRun P w K mg base f ((initF qual params [.Expr (supE x p0 p1 p2 p3 p4) p5, .Assign [.Attribute (.Name sf q1) fld q2] (.Name x q3) q4] scope cc cda).fd doc pm ct) sf x C fld := by
  intro A outer s H args us vs Q E hd hdep e0 hb r hsp
  obtain ⟨a, y, rfl, ea, hq⟩ := hsp
  have KX : K.In s.heap := e0.mod.kin.keeps fun b o e => (e0.bs b o e).1
  have lim : s.heap.NoLimit := e0.mod.nolimit.keeps fun b o e => (e0.bs b o e).1
  have cells : CellsAt [(("__class__" : Str), cc)] ["__class__"] [none] s.heap H := by
    obtain ⟨v, hv⟩ := hcc
    have one : ∀ {z : Str} {c : Addr}, ([(("__class__" : Str), cc)] : List (Str × Addr)).lookup z = some c → z = "__class__" ∧ c = cc := fun {z c} e => by
      rw [List.lookup_cons] at e
      split at e
      · rename_i h
        cases e
        exact ⟨by simpa using h, rfl⟩
      · cases e
    refine ⟨rfl, fun z c e => ?_, fun u v c e1 e2 => (one e1).1.trans (one e2).1.symm, fun i z e => ?_⟩
    · obtain ⟨-, rfl⟩ := one e
      refine ⟨?_, v, hv _ KX⟩
      cases hl : K.lookup c with
      | none => exact absurd hl hbc
      | some o => exact (e0.bs c o (e0.mod.kin _ _ hl)).2
    · refine ⟨cc, ?_, fun v e => ?_⟩
      · cases i with
        | zero => cases e; rfl
        | succ i => cases e
      · cases i with
        | zero => cases e
        | succ i => cases e
  refine ks_codeAny_call_defAt hdep (KX _ _ lk) rfl lim (codeRec_of KX hcd) rfl hb S.nocell (fun y hy => S.par _ (List.of_mem_zip hy).1) (fun h₁ hns keep => ?_) S.co S.gen S.kind
  have J := inv_startN (CX := L2.CX P w) (F := initF qual params [.Expr (supE x p0 p1 p2 p3 p4) p5, .Assign [.Attribute (.Name sf q1) fld q2] (.Name x q3) q4] scope cc cda) (f := f) (E := E) (tk := s.toks + ([sf, x].zip us).length) S hd e0 rfl r cells hns keep
  refine ks_wpAt_execs_cons ?_
  refine ks_wpAt_mono (st_super (i := 0) (j := 1) T (Z A outer s H E) J ea rfl rfl rfl rfl rfl _ (hev_gen x p0 p1 p2 p3 p4 _ hline) rfl (fun s' J' => ?_)) (fun fl s' q => q) (fun e s' q => q)
  · refine ks_wpAt_execs_cons (wpAt_of_wpAny ?_)
    have vs_ : Vis scope sf := .inl (S.par _ (by simp))
    have vx : Vis scope x := .inl (S.par _ (by simp))
    have ps := ps_ost (X := ncx (L2.CX P w) P w K mg base [sf, x, "__class__"] (initF qual params [.Expr (supE x p0 p1 p2 p3 p4) p5, .Assign [.Attribute (.Name sf q1) fld q2] (.Name x q3) q4] scope cc cda) f A outer s H E) (o := .Name sf q1) (e := .Name x q3) (f := fld) (p' := q2) (pos := q4) (pe_var (i := 0) rfl vs_ n1 n2) (pe_var (i := 1) rfl vx (Z A outer s H E).nd n3) rfl
    refine wpAny_mono (ps.run [] s' _ H { nx := fun _ H' => Q .non H', rt := Q } J' ?_) (fun fl s'' q => ?_) fun e s'' q => q
    · exact ⟨y, rfl, .ref a, rfl, a, C, rfl, T, hfld, .inl ⟨ea, hq⟩⟩
    · cases fl with
      | next =>
        obtain ⟨σ', H', J2, q⟩ := q
        refine wpAt_of_wpAny (wpAny_pure ?_)
        exact ⟨.non, H', J2.os, J2.bare, J2.base, J2.hok, rfl, q⟩
      | ret u =>
        obtain ⟨v, σ', H', J2, rv, q⟩ := q
        exact ⟨v, H', J2.os, J2.bare, J2.base, J2.hok, rv, q⟩
      | brk => obtain ⟨_, _, _, q⟩ := q; exact q.elim
      | cont => obtain ⟨_, _, _, q⟩ := q; exact q.elim
section
variable {X : Cx}
/-- C(e) of such a class -/
theorem pmk_init {z sf x fld : Str} {C fI : Addr} {fd : FuncData} {e : Expr} {te : TE} {p pos : Pos} (T : OexC X.K C) (iC : PySem.W.findIn X.K (.ref C) "__init__" = some (some (.ref fI))) (tI : PySem.W.typeIn X.K (.ref fI) = some (.type "function"))
    (F1 : InitRun X.prog X.w X.K X.mg X.base fI fd sf x C fld) (hcalm : X.calm = true) (hdep : X.A.depth + 1 < recursionLimit) (hb : Binds X.K fd [sf, x] []) (hx : Passes (L2.CX X.prog X.w) X (fun _ _ _ => False)) (hg : Gl X z) (hm : X.mg z = some (.ref C)) (ha : PE X e te)
    (hdb : (z == ("__debug__" : Str)) = false) (he : starEach [e] X.env = (false, eval e X.env) :: starEach [] X.env) :
    PMk X (.Call (.Name z p) [e] [] pos) (fun σ H Q => te σ H fun y H1 => ∀ d, H1 d = none → Q (.ref C) (some d) (upd H1 d (.xd [(fld, y)]))) := by
  intro pins s σ H Q I h
  obtain ⟨nm, q, N, bs, bm, sn, sub, ab, col, dd, k0, k1, k2, k3, k5, hC, hbm⟩ := T.cls
  have ha2 : PA X [e] (tCons te tNil) := pa_cons ha pa_nil he
  refine wpAny_Call_Name_kw (ld_glob I hg hm ?_ hdb)
  refine PySem.W.callWith_K (h₀ := X.base) I.ok.mod.kin T.kC (thn (ha2.run pos pins s σ H (fun vs H1 => match vs with | [y] => ∀ d, H1 d = none → Q (.ref C) (some d) (upd H1 d (.xd [(fld, y)])) | _ => False) I h) fun us s1 ⟨vs, H1, I1, r1, hz⟩ => ⟨I1.kIn, ?_⟩) he rfl
  rcases vs with _ | ⟨y, _ | ⟨y2, vs⟩⟩
  · exact hz.elim
  · have hz : ∀ d, H1 d = none → Q (.ref C) (some d) (upd H1 d (.xd [(fld, y)])) := hz
    show wpAny _ _ (call (.ref C) us) _ _ _
    obtain ⟨hp, g, dr, tk, os⟩ := s1
    have hsz : hp.objs.size ≤ hp.objs.size + 1 := Nat.le_succ _
    have hn : H1 (hp.objs.size + 1) = none := I1.hok.fresh hsz
    have kk : ∀ b o, hp.get? b = some o → ((hp.push (PySem.W.kdv_tup us)).push (PySem.HandSPX.excO C hp.objs.size)).get? b = some o := fun b o e => Heap.get?_push_of_some _ (Heap.get?_push_of_some _ e)
    have hget : ((hp.push (PySem.W.kdv_tup us)).push (PySem.HandSPX.excO C hp.objs.size)).get? (hp.objs.size + 1) = some (PySem.HandSPX.excO C hp.objs.size) := by heap_get
    have I2 : Inv X pins σ (upd H1 (hp.objs.size + 1) (exo (hp.objs.size + 1) C none)) ⟨(hp.push (PySem.W.kdv_tup us)).push (PySem.HandSPX.excO C hp.objs.size), g, dr, tk, os⟩ :=
      I1.laid (t' := tk) (a := hp.objs.size + 1) (o := exo (hp.objs.size + 1) C none) (h' := (hp.push (PySem.W.kdv_tup us)).push (PySem.HandSPX.excO C hp.objs.size)) kk hsz (exo_ok hget)
    have r2 : Vals (V.ref (hp.objs.size + 1) :: [y]) (Value.ref (hp.objs.size + 1) :: us) := .cons rfl r1
    have hl : (Value.ref (hp.objs.size + 1) :: us).length = [sf, x].length := r2.length.symm
    have hus : us.length ≤ sizeLine := by
      rw [← Paired.length r1, sizeLine_eq]
      show (1 : Nat) ≤ 16777216
      decide
    have hsp : spInit C fld (V.ref (hp.objs.size + 1) :: [y]) (upd H1 (hp.objs.size + 1) (exo (hp.objs.size + 1) C none)) (fun v H2 => v = .non ∧ ∃ (d : Addr) (fs : List (Str × V)), H2 (hp.objs.size + 1) = some (exo (hp.objs.size + 1) C (some d)) ∧ H2 d = some (exd d fs) ∧ H1 d = none ∧ Q (.ref C) (some d) (upd (del H2 (hp.objs.size + 1)) d (.xd fs))) (fun _ _ _ => False) := by
      refine ⟨_, y, rfl, upd_same, fun dx hd hne => ⟨rfl, dx, [(fld, y)], upd_same, ?_, ?_, ?_⟩⟩
      · rw [upd_ne hne, upd_same]
      · rwa [upd_ne hne] at hd
      · have hd1 : H1 dx = none := by rwa [upd_ne hne] at hd
        have eq : upd (del (upd (upd (upd H1 (hp.objs.size + 1) (exo (hp.objs.size + 1) C none)) dx (exd dx [(fld, y)])) (hp.objs.size + 1) (exo (hp.objs.size + 1) C (some dx))) (hp.objs.size + 1)) dx (.xd [(fld, y)]) = upd H1 dx (.xd [(fld, y)]) := by
          funext b
          by_cases hb : b = dx
          · rw [hb, upd_same, upd_same]
          · rw [upd_ne hb, upd_ne hb]
            by_cases hb2 : b = hp.objs.size + 1
            · rw [hb2, del_same, hn]
            · rw [del_ne hb2, upd_ne hb2, upd_ne hb, upd_ne hb2]
        rw [eq]
        exact hz dx hd1
    have hbt := hb _ (Value.ref (hp.objs.size + 1) :: us) I2.kIn (by rw [List.append_nil]; exact hl)
    rw [List.append_nil] at hbt
    refine wpAny_call (PySem.HandSPX.call_own F.excBase_ValueError (fun Y => PySem.HandSPX.refsVE_contains Y bm hbm) (I1.kIn _ _ hC) (PySem.W.looks_findIn I1.kIn iC) (fun self => PySem.W.bind_fn I1.kIn self tI) hus
      (codeAny_mono (F1 _ X.stack _ _ ⟨Value.ref (hp.objs.size + 1) :: us, []⟩ (Value.ref (hp.objs.size + 1) :: us) _ _ (fun _ _ _ => False) (I1.ok.hd hcalm) (by rw [make_depth]; exact hdep) (I2.env0.make C us []) hbt r2 hsp) fun r s' hq' => ?_))
    cases r with
    | error er => exact hx pins σ _ _ er s' I2 hq'
    | ok fl =>
      cases fl with
      | ret u =>
        obtain ⟨v, H2, os2, bare2, un2, hok2, rv, ev, d, fs, ea, ed, hd1, q2⟩ := hq'
        subst ev
        obtain ⟨h2, g2, d2, t2, os'⟩ := s'
        exact ⟨rv, mk_end (raises_own T.exC T.tyC) I1 hsz kk un2 hok2 os2 bare2 ea ed hd1 q2⟩
      | next => exact False.elim hq'
      | brk => exact False.elim hq'
      | cont => exact False.elim hq'
  · exact hz.elim
end
end MP

set_option linter.all false
set_option autoImplicit false
set_option Elab.async false
set_option maxRecDepth 100000
namespace MP
open PySem L2 PySem.Spec PyProof.Rows

/-! ### the text beside the IR: statements -/
def asgB (sc : Sc) : Pt → E → Expr → Expr → Bool
  | .v _, .comp .., .Name .., .ListComp _ [⟨_, _, _, 0⟩] _ _ => true
  | .v _, .comp2 .., .Name .., .ListComp _ [⟨_, _, _, 0⟩, ⟨_, _, _, 0⟩] _ _ => true
  | .tup [.v i, .v j], .tup [_, _], .Tuple [.Name x px, .Name y py] _ _, .Tuple [a, b] _ _ => swPar sc.scope [.Name x px, .Name y py] [a, b] && decide (i ≠ j) && decide (sc.scope.names.lookup x = some .local) && decide (sc.scope.names.lookup y = some .local) &&
      decide (parNames sc.scope px.line [.Name x px, .Name y py] = [x, y])
  | .tup [.v i, .v j, .v l], .tup [_, _, _], .Tuple [.Name x px, .Name y py, .Name z pz] _ _, .Tuple [a, b, c] _ _ => swPar sc.scope [.Name x px, .Name y py, .Name z pz] [a, b, c] && decide (i ≠ j) && decide (i ≠ l) && decide (j ≠ l) &&
      decide (sc.scope.names.lookup x = some .local) && decide (sc.scope.names.lookup y = some .local) && decide (sc.scope.names.lookup z = some .local) && decide (parNames sc.scope px.line [.Name x px, .Name y py, .Name z pz] = [x, y, z])
  | _, _, _, _ => false
def augOn : BOp → Bool
  | .add => true
  | .sub => true
  | _ => false
/-- the one except clause -/
def hndB : List ExceptHandler → Option (Str × Option Str × List Stmt)
  | [.ExceptHandler (some (.Name x _)) n (b0 :: bs) _] => some (x, n, b0 :: bs)
  | _ => none
theorem hndB_eq {hs : List ExceptHandler} {x : Str} {n : Option Str} {su : List Stmt} (h : hndB hs = some (x, n, su)) : ∃ np b0 bs pos, su = b0 :: bs ∧ hs = [.ExceptHandler (some (.Name x np)) n (b0 :: bs) pos] := by
  unfold hndB at h
  split at h
  · cases h
    exact ⟨_, _, _, _, rfl, rfl⟩
  · cases h
/-- the one name that is written -/
def nmB : List Expr → Option Str
  | [.Name x _] => some x
  | _ => none
theorem nmB_eq {ts : List Expr} {x : Str} (h : nmB ts = some x) : ∃ p, ts = [.Name x p] := by
  unfold nmB at h
  split at h
  · cases h; exact ⟨_, rfl⟩
  · cases h
def raiB (sc : Sc) (nm : Str) : List E → Option Expr → Option Expr → Bool
  | [], some (.Call (.Name x _) [] [] _), none => decide (x = nm) && globB sc x
  | _, _, _ => false
/-- raise X(e) -/
def raiV (sc : Sc) (me : FnDef) (nm : Str) : List E → Option Expr → Option Expr → Bool
  | [x], some (.Call (.Name n _) [a] [] _), none => decide (n = nm) && globB sc n && notStar a && chkE sc me x a
  | _, _, _ => false
def isLC : Expr → Bool
  | .ListComp .. => true
  | _ => false
/-- the lambdas of a display -/
def chkLs (sc : Sc) : List Nat → List Expr → Bool
  | [], [] => true
  | k :: ks, a :: as => (match sc.lamA.lookup k with | some l => l.is a | none => false) && notStar a && chkLs sc ks as
  | _, _ => false
def chkL (sc : Sc) (i : Nat) (x : Str) : Bool → List Nat → Expr → Bool
  | false, ks, .List as _ => chkLs sc ks as && decide (ks.length ≤ 100)
  | true, ks, .BinOp (.Name y _) .Add (.List as _) _ => decide (x = y) && visB sc x && !(x == ("__debug__" : Str)) && !(x == ("__classdict__" : Str)) && chkLs sc ks as && decide (ks.length ≤ 100)
  | _, _, _ => false
def Sc.suite (sc : Sc) (n : Option Str) : Sc := { N := sc.N, scope := sc.scope, raw := sc.raw, calm := false, hn := n, inS := true, isN := sc.isN, isF := sc.isF }
def Sc.plain (sc : Sc) : Bool := !sc.inS
def subB : List Expr → Option (Expr × List Expr × Expr)
  | [.Subscript o (.Tuple as k tp) p'] => some (o, as, .Subscript o (.Tuple as k tp) p')
  | _ => none
theorem subB_is {tgs : List Expr} {o tg : Expr} {as : List Expr} (h : subB tgs = some (o, as, tg)) : ∃ k tp p', tgs = [.Subscript o (.Tuple as k tp) p'] ∧ tg = .Subscript o (.Tuple as k tp) p' := by
  unfold subB at h
  split at h
  · cases h; exact ⟨_, _, _, rfl, rfl⟩
  · cases h
def subS : List Expr → Option (Expr × Expr × Expr)
  | [.Subscript o i p'] => if notSlice i then some (o, i, .Subscript o i p') else none
  | _ => none
theorem subS_is {tgs : List Expr} {o i tg : Expr} (h : subS tgs = some (o, i, tg)) : ∃ p', tgs = [.Subscript o i p'] ∧ tg = .Subscript o i p' := by
  unfold subS at h
  split at h
  · split at h
    · cases h; exact ⟨_, rfl, rfl⟩
    · cases h
  · cases h
mutual
def chkS (sc : Sc) (me : FnDef) : S → Stmt → Bool
  | .asg p e, .Assign [tg] a _ => sc.calm && notSD a && notStar tg && chkE sc me e a && chkP sc me p tg && ((!(swC sc.scope tg a) && swNone sc.scope tg a) || (swC sc.scope tg a == isLC a && asgB sc p e tg a))
  | .aug i op e, .AugAssign (.Name x _) o a _ => sc.calm && augOn op && decide (o = bAST op) && decide (sc.N[i]? = some x) && locB sc x && chkE sc me e a
  | .dput x ks e, .Assign tgs a _ => (match subB tgs with | some (o, as, tg) => notSD a && !(swC sc.scope tg a) && chkE sc me x o && chkEs sc me ks as && chkE sc me e a | none => false)
  | .kput x k e, .Assign tgs a _ => (match subS tgs with | some (o, i, tg) => notSD a && !(swC sc.scope tg a) && chkE sc me x o && chkE sc me k i && chkE sc me e a | none => false)
  | .ex e, .Expr a _ => notComp a && chkE sc me e a
  | .ret e, .Return (some a) _ => chkE sc me e a
  | .ret0, .Return none _ => true
  | .pass, .Pass _ => true
  | .brk, .Break _ => true
  | .cont, .Continue _ => true
  | .ite t a b, .If c p q _ => chkE sc me t c && chkSs sc me a p && chkSs sc me b q
  | .whl t b, .While c p [] _ => chkE sc me t c && chkSs sc me b p
  | .for_ p it b, .For tg iter q [] _ => sc.calm && notSet iter && chkI sc me it iter && chkP sc me p tg && chkSs sc me b q
  | .raise _ nm es, .Raise e fr _ => sc.calm && (raiB sc nm es e fr || raiV sc me nm es e fr)
  | .try_ b _ nm slot h, .Try body hs orelse fin _ => orelse.isEmpty && fin.isEmpty && (match hndB hs with
      | some (x, some n, su) => sc.plain && decide (x = nm) && globB sc x && decide (sc.N[slot]? = some n) && decide (sc.scope.names.lookup n = some .local) && chkSs sc me b body && chkSs (sc.suite (some n)) me h su
      | _ => false)
  | .tryO b _ nm h, .Try body hs orelse fin _ => orelse.isEmpty && fin.isEmpty && (match hndB hs with
      | some (x, none, su) => sc.plain && decide (x = nm) && globB sc x && chkSs sc me b body && chkSs (sc.suite none) me h su
      | _ => false)
  | .dead, _ => true
  | .lams i app ks, .Assign tgs a _ => sc.calm && !(sc.lamA.isEmpty) && (match nmB tgs with | some x => decide (sc.N[i]? = some x) && locB sc x && chkL sc i x app ks a | none => false)
  | _, _ => false
def chkSs (sc : Sc) (me : FnDef) : List S → List Stmt → Bool
  | [], [] => true
  | s :: ss, a :: as => chkS sc me s a && chkSs sc me ss as
  | _, _ => false
end

mutual
/-- what statements speak of -/
def calS (P : FnDef → Prop) (G : Str → IV → Prop) (R : Nat → Str → Bool → Prop) (C : Nat → Str → Prop) (me : FnDef) : S → Prop
  | .asg p e => calP P G me p ∧ calE P G me e
  | .aug _ _ e => calE P G me e
  | .augA a _ _ _ _ e => calE P G me a ∧ calE P G me e
  | .dput a ks e => calE P G me a ∧ calEs P G me ks ∧ calE P G me e
  | .kput a k e => calE P G me a ∧ calE P G me k ∧ calE P G me e
  | .ex e => calE P G me e
  | .ret e => calE P G me e
  | .ret0 => True
  | .pass => True
  | .brk => True
  | .cont => True
  | .ite t a b => calE P G me t ∧ calSs P G R C me a ∧ calSs P G R C me b
  | .whl t b => calE P G me t ∧ calSs P G R C me b
  | .for_ p it b => calP P G me p ∧ calI P G me it ∧ calSs P G R C me b
  | .raise c nm es => R c nm (!es.isEmpty) ∧ calEs P G me es
  | .try_ b c nm _ h => C c nm ∧ calSs P G R C me b ∧ ∀ P' : FnDef → Prop, calSs P' G R C me h
  | .tryO b c nm h => C c nm ∧ calSs P G R C me b ∧ ∀ P' : FnDef → Prop, calSs P' G R C me h
  | .dead => True
  | .lams _ _ _ => True
def calSs (P : FnDef → Prop) (G : Str → IV → Prop) (R : Nat → Str → Bool → Prop) (C : Nat → Str → Prop) (me : FnDef) : List S → Prop
  | [] => True
  | s :: ss => calS P G R C me s ∧ calSs P G R C me ss
end
/-- an exception class that may be raised with nothing -/
def RaiseOk (γ : Gm) (K : PySem.W.Frag) (mg : Str → Option Value) (c : Nat) (nm : Str) : Prop :=
  ∃ (C : Addr) (B newId initId : String) (bmB : List Value), γ.xt c = some (C, none) ∧ mg nm = some (.ref C) ∧ ExcBaseFacts B newId initId bmB ∧ PySem.W.excIn K C bmB newId = true ∧ PySem.W.keepIn K (.ref C) = true ∧
    PySem.W.subIn K (.ref C) (.type "BaseException") = some true ∧ PySem.W.typeIn K (.ref C) = some (.type "type")
/-- an exception class whose __init__ says super().__init__(x) and keeps x -/
def RaiseVOk (γ : Gm) (P : Program) (w : World) (K : PySem.W.Frag) (mg : Str → Option Value) (base : Heap) (c : Nat) (nm : Str) : Prop :=
  ∃ (C fI : Addr) (fd : FuncData) (sf x fld : Str), γ.xt c = some (C, some fld) ∧ mg nm = some (.ref C) ∧ OexC K C ∧ PySem.W.findIn K (.ref C) "__init__" = some (some (.ref fI)) ∧ PySem.W.typeIn K (.ref fI) = some (.type "function") ∧
    InitRun P w K mg base fI fd sf x C fld ∧ Binds K fd [sf, x] []
def RaiseAny (γ : Gm) (P : Program) (w : World) (K : PySem.W.Frag) (mg : Str → Option Value) (base : Heap) (c : Nat) (nm : Str) : Bool → Prop
  | false => RaiseOk γ K mg c nm
  | true => RaiseVOk γ P w K mg base c nm
/-- an exception class that an except clause names -/
def CatchOk (γ : Gm) (K : PySem.W.Frag) (mg : Str → Option Value) (c : Nat) (nm : Str) : Prop :=
  ∃ Cc : Addr, mg nm = some (.ref Cc) ∧ ∀ k C f, γ.xt k = some (C, f) → PySem.W.exmOne K (.ref C) (.ref Cc) = some (decide (c = k ∨ c = 0))
section
variable {γ : Gm} {X : Cx} {sc : Sc} {W : WX} {hx : HX} {G : Orc} {me : FnDef} {fu : Nat}
/-- X() of an own class -/
theorem pmk_own0 {C : Addr} {bmB : List Value} {B newId initId : String} {x : Str} {p pos : Pos} (F : ExcBaseFacts B newId initId bmB) (q : PySem.W.excIn X.K C bmB newId = true) (gC : X.mg x = some (.ref C)) (kC : PySem.W.keepIn X.K (.ref C) = true) (r : Raises X (.ref C)) (hg : Gl X x)
    (hdb : (x == ("__debug__" : Str)) = false) : PMk X (.Call (.Name x p) [] [] pos) (fun _ H Q => Q (.ref C) none H) := by
  intro pn s0 σ Ha Q I0 goal
  obtain ⟨_, _, _, _, _, _, _, _, _, _, _, _, _, _, _, _, _, cls, space, noInit, tail⟩ := exc_obj I0.kIn q
  have made := wpAny_call_exc_subT (prog := X.prog) (w := X.w) (A := X.A) (E := X.xe) (rest := []) (Q := MkP X pn σ Q) F tail cls space noInit (fun _ _ new => mk_of I0 new r goal (I0.hok.gone new.new)) (Nat.zero_le _)
  exact wpAny_Call_Name_kw (ld_glob I0 hg gC (PySem.W.callWith_K0 I0.kIn kC made) hdb)
theorem s_raise {c : Nat} {nm : Str} {p pos pos' : Pos} (g : Good γ X sc W) (hcm : sc.calm = true) (hg : globB sc nm = true) (h : RaiseOk γ X.K X.mg c nm) : PS X (.Raise (some (.Call (.Name nm p) [] [] pos)) none pos') (tSI γ W hx (evS G me fu (.raise c nm []))) := by
  obtain ⟨C, B, newId, initId, bmB, q1, q2, q3, q4, q5, q6, q7⟩ := h
  obtain ⟨g1, g2, g3⟩ := g.gl hg
  refine PS.imp (L2.ps_raise (g.calm hcm) g.tk (pmk_own0 q3 q4 q2 q5 (raises_own q6 q7) g1 g2)) fun D σ H h => ?_
  obtain ⟨ρ, env, st, hh, R, Re, A⟩ := h
  simp only [evS, evEs, Res.run] at A
  exact A ρ H σ (.ref C) none (.refl ρ H) R Re hh ⟨C, none, q1, rfl, rfl⟩
theorem s_raiseV {c : Nat} {nm : Str} {e : E} {a : Expr} {p pos pos' : Pos} (g : Good γ X sc W) (hcm : sc.calm = true) (hg : globB sc nm = true) (hns : notStar a = true) (h : RaiseVOk γ X.prog X.w X.K X.mg X.base c nm) (he : PE X a (tI γ W hx (evE G me e))) :
    PS X (.Raise (some (.Call (.Name nm p) [a] [] pos)) none pos') (tSI γ W hx (evS G me fu (.raise c nm [e]))) := by
  obtain ⟨C, fI, fd, sf, x, fld, q1, q2, q3, q4, q5, q6, q7⟩ := h
  obtain ⟨g1, g2, g3⟩ := g.gl hg
  have run1 : ∀ env st, evS G me fu (.raise c nm [e]) env st = (evE G me e env st).run env (fun x st => match x with | .v z => if z.plain then .exc ⟨c, some z⟩ env st else .bad | _ => .bad) := fun env st => by
    simp only [evS, evEs]
    rcases evE G me e env st with ⟨x, st1⟩ | ⟨x, st1⟩ | _ <;> try rfl
    cases x <;> rfl
  have mk := pmk_init (pos := pos) (p := p) q3 q4 q5 q6 (g.calm hcm) (by have := g.dp; omega) q7 (fun pins σ H s u s' I k => g.tk u s' (XE.of_call I (fun _ _ _ z => z.elim) k)) g1 q2 he g2 (star_one hns [] X.env)
  refine PS.imp (L2.ps_raise (g.calm hcm) g.tk mk) fun D σ H h => ?_
  obtain ⟨ρ, env, st, hh, R, Re, A⟩ := h
  rw [run1] at A
  refine ⟨ρ, env, st, hh, R, Re, (AftS.run R Re hh A).imp fun v H1 q d hd => ?_⟩
  obtain ⟨ρ1, st1, y, e1, R1, T1, fr1, A1⟩ := q
  have eL : Ext ρ1 H1 ρ1 (upd H1 d (.xd [(fld, v)])) := Ext.laid hd
  cases y with
  | v z =>
    simp only at A1
    split at A1
    · exact A1 ρ1 _ σ (.ref C) (some d) (e1.trans eL) (R1.laid hd) (Re.mono R (e1.trans eL)) hh ⟨C, some fld, q1, rfl, d, v, rfl, upd_same, RepV.mono R1 eL T1⟩
    · exact A1.elim
  | _ => exact A1.elim
theorem s_aug {i : Nat} {x : Str} {op : BOp} {e : E} {a : Expr} {p pos : Pos} (hop : augOn op = true) (hxT : ∀ o σ, hx o σ) (g : Good γ X sc W) (hi : sc.N[i]? = some x) (hl : locB sc x = true) (he : PE X a (tI γ W hx (evE G me e))) :
    PS X (.AugAssign (.Name x p) (bAST op) a pos) (tSI γ W hx (evS G me fu (.aug i op e))) := by
  have key : ∀ {f : Int → Int → Int}, (∀ m n c, augI op m n = some c → c = f m n) → ∀ D σ H, tSI γ W hx (evS G me fu (.aug i op e)) D σ H → tAug i (tI γ W hx (evE G me e)) (ipI f) D σ H := by
    intro f hf D σ H h
    obtain ⟨ρ, env, st, hh, R, Re, A⟩ := h
    simp only [evS] at A
    split at A
    · rename_i m em
      obtain ⟨v, h1, h2⟩ := Re.sl i _ em
      refine ⟨v, h1, ρ, env, st, hh, R, Re, (AftS.run R Re hh A).imp fun w H1 q => ?_⟩
      obtain ⟨ρ1, st1, y, e1, R1, T1, fr1, A1⟩ := q
      simp only [RepV] at h2
      subst h2
      split at A1
      · rename_i n
        simp only [RepT, RepV] at T1
        subst T1
        split at A1
        · rename_i c hc
          split at A1
          · rename_i env' hs
            obtain ⟨Re1, eh⟩ := setSl_env (v := .int c) (Re.mono R e1) (show RepV γ ρ1 H1 (.int c) (.int c) from rfl) hs
            refine ⟨m, n, rfl, rfl, ?_⟩
            rw [← hf m n c hc]
            exact A1 ρ1 H1 _ e1 R1 Re1 (hxT _ _)
          · exact A1.elim
        · exact A1.elim
      · exact A1.elim
    · exact A.elim
  have hL := g.st x hl
  cases op with
  | add => exact PS.imp (ps_aug g.nd (by rw [g.hN]; exact hi) hL.1 he ip_add hL.2) (key fun m n c h => by simp only [augI, Option.some.injEq] at h; exact h.symm)
  | sub => exact PS.imp (ps_aug g.nd (by rw [g.hN]; exact hi) hL.1 he ip_sub hL.2) (key fun m n c h => by simp only [augI, Option.some.injEq] at h; exact h.symm)
  | _ => simp [augOn] at hop
/-- what a suite's slots stand for -/
def hxS (slot a : Nat) (cls : Value) (d : Option Addr) : HX := { p := fun _ σ => σ[slot]? = some (some (.ref a)), hd := some (cls, d) }
def hxO (cls : Value) (d : Option Addr) : HX := { p := fun _ _ => True, hd := some (cls, d) }
def rtOnly : RS → RS
  | .rt v st => .rt v st
  | _ => .bad
theorem rt_only {Y : Cx} {hy : HX} {W' : WX} {h : List S} {as : List Stmt} (p : PSs Y as (tSI γ W' hy (evSs G me fu h))) : PSs Y as (tSI γ W' hy (fun env st => rtOnly (evSs G me fu h env st))) := PSs.imp p fun D σ H q => by
  obtain ⟨ρ, env, st, hh, R, Re, A⟩ := q
  refine ⟨ρ, env, st, hh, R, Re, ?_⟩
  have A : AftS γ hy ρ H (rtOnly (evSs G me fu h env st)) D W' := A
  cases hm : evSs G me fu h env st with
  | rt _ _ => rw [hm] at A; exact A
  | nx _ _ => rw [hm] at A; exact A.elim
  | bk _ _ => rw [hm] at A; exact A.elim
  | ct _ _ => rw [hm] at A; exact A.elim
  | exc _ _ _ => rw [hm] at A; exact A.elim
  | bad => rw [hm] at A; exact A.elim
theorem s_try {b h : List S} {c : Nat} {nm n : Str} {slot : Nat} {body bs : List Stmt} {b0 : Stmt} {np pos pos' : Pos} (g : Good γ X sc W) (hs : X.stack = X.env :: X.outer) (hf : X.env.frame = some X.env.locals) (hi : sc.N[slot]? = some n) (hl : sc.scope.names.lookup n = some .local) (hg : globB sc nm = true) (hc : CatchOk γ X.K X.mg c nm)
    (hb : ∀ (W' : WX) (pn : List (Addr × Obj)) (xe : Value → Shared → Prop), Takes (X.tr pn xe) W' → PassesOwn (model X.prog X.w) X.A X.env xe → PSs (X.tr pn xe) body (tSI γ W' hx (evSs G me fu b)))
    (hsu : ∀ (a : Addr) (oe : Obj) (cls : Value) (d : Option Addr) (pn : List (Addr × Obj)), Zc cls d oe → (∃ vs, oe.data = .fields vs) → PSs (X.suite a ((a, oe) :: pn)) (b0 :: bs) (tSI γ noW (hxS slot a cls d) (evSs G me fu h))) :
    PS X (.Try body [.ExceptHandler (some (.Name nm np)) (some n) (b0 :: bs) pos'] [] [] pos) (tSI γ W hx (evS G me fu (.try_ b c nm slot h))) := by
  obtain ⟨Cc, hm, hcat⟩ := hc
  obtain ⟨g1, g2, g3⟩ := g.gl hg
  refine PS.imp (L2.ps_try_as (X := X) (x := nm) (n := n) (c := .ref Cc) (i := slot) (tb := fun W' => tSI γ W' hx (evSs G me fu b)) (ts := fun a cls d => tSI γ noW (hxS slot a cls d) (fun env st => rtOnly (evSs G me fu h env st))) (Wout := W) hs hf g.nd (by rw [g.hN]; exact hi)
    (show X.env.scope.names.lookup n = some .local by rw [g.nm]; exact hl) ⟨g1, g2, .inl hm⟩ g.tk hb (fun a oe cls d pn z1 z2 => rt_only (hsu a oe cls d pn z1 z2))) fun D σ H q => ?_
  obtain ⟨ρ, env, st, hh, R, Re, A⟩ := q
  refine ⟨ρ, env, st, hh, R, Re, ?_⟩
  simp only [evS] at A
  cases hm1 : evSs G me fu b env st with
  | nx _ _ => rw [hm1] at A; exact A
  | bk _ _ => rw [hm1] at A; exact A
  | ct _ _ => rw [hm1] at A; exact A
  | rt _ _ => rw [hm1] at A; exact A
  | bad => rw [hm1] at A; exact A
  | exc e env1 st1 =>
    rw [hm1] at A
    intro ρ' H' σ' cls d e' R' Re' hh' X'
    obtain ⟨C, f, x1, x2, x3⟩ := id X'
    refine ⟨decide (c = e.cls ∨ c = 0), by rw [x2]; exact hcat _ _ _ x1, fun hb a na => ?_, fun hb => ?_⟩
    · simp only [decide_eq_true_eq] at hb
      simp only [if_pos hb] at A
      split at A
      · rename_i hlt
        have hlt' : slot < σ'.length := by rw [← Re'.len]; exact hlt
        refine ⟨ρ', { sl := env1.sl.set slot none, hx := some e }, st1, ?_, R', ⟨by simp [Re'.len], fun j x qj => ?_, fun e2 q2 => ?_, fun q hq => absurd (show q ∈ [] from hq) (by simp), fun p hp => by cases hp⟩, ?_⟩
        · show (σ'.set slot (some (.ref a)))[slot]? = _
          rw [List.getElem?_set_self hlt']
        · by_cases hj : j = slot
          · subst hj
            have qj : (env1.sl.set j none)[j]? = some (some x) := qj
            rw [List.getElem?_set_self hlt] at qj
            cases qj
          · have qj : (env1.sl.set slot none)[j]? = some (some x) := qj
            rw [List.getElem?_set_ne (Ne.symm hj)] at qj
            obtain ⟨w, h1, h2⟩ := Re'.sl j x qj
            exact ⟨w, by rw [List.getElem?_set_ne (Ne.symm hj)]; exact h1, h2⟩
        · cases q2
          exact ⟨(cls, d), rfl, X'⟩
        · show AftS γ _ ρ' H' (rtOnly (evSs G me fu h _ st1)) _ _
          split at A
          · rename_i v st2 hm2
            rw [hm2]
            exact fun ρ2 H2 v' e2 R2 T2 o2 => A ρ2 H2 v' (e'.trans e2) R2 T2 fun x hx' => e'.back x (o2 x hx')
          · exact A.elim
      · exact A.elim
    · simp only [decide_eq_false_iff_not] at hb
      simp only [if_neg hb] at A
      exact A ρ' H' σ' cls d e' R' Re' hh' X'
theorem s_tryO {b h : List S} {c : Nat} {nm : Str} {body bs : List Stmt} {b0 : Stmt} {np pos pos' : Pos} (g : Good γ X sc W) (hs : X.stack = X.env :: X.outer) (hf : X.env.frame = some X.env.locals) (hg : globB sc nm = true) (hc : CatchOk γ X.K X.mg c nm)
    (hb : ∀ (W' : WX) (pn : List (Addr × Obj)) (xe : Value → Shared → Prop), Takes (X.tr pn xe) W' → PassesOwn (model X.prog X.w) X.A X.env xe → PSs (X.tr pn xe) body (tSI γ W' hx (evSs G me fu b)))
    (hsu : ∀ (a : Addr) (oe : Obj) (cls : Value) (d : Option Addr) (pn : List (Addr × Obj)), Zc cls d oe → (∃ vs, oe.data = .fields vs) → PSs (X.suite a ((a, oe) :: pn)) (b0 :: bs) (tSI γ noW (hxO cls d) (evSs G me fu h))) :
    PS X (.Try body [.ExceptHandler (some (.Name nm np)) none (b0 :: bs) pos'] [] [] pos) (tSI γ W hx (evS G me fu (.tryO b c nm h))) := by
  obtain ⟨Cc, hm, hcat⟩ := hc
  obtain ⟨g1, g2, g3⟩ := g.gl hg
  refine PS.imp (L2.ps_try_only (X := X) (x := nm) (c := .ref Cc) (tb := fun W' => tSI γ W' hx (evSs G me fu b)) (ts := fun a cls d => tSI γ noW (hxO cls d) (fun env st => rtOnly (evSs G me fu h env st))) (Wout := W) hs hf
    ⟨g1, g2, .inl hm⟩ g.tk hb (fun a oe cls d pn z1 z2 => rt_only (hsu a oe cls d pn z1 z2))) fun D σ H q => ?_
  obtain ⟨ρ, env, st, hh, R, Re, A⟩ := q
  refine ⟨ρ, env, st, hh, R, Re, ?_⟩
  simp only [evS] at A
  cases hm1 : evSs G me fu b env st with
  | nx _ _ => rw [hm1] at A; exact A
  | bk _ _ => rw [hm1] at A; exact A
  | ct _ _ => rw [hm1] at A; exact A
  | rt _ _ => rw [hm1] at A; exact A
  | bad => rw [hm1] at A; exact A
  | exc e env1 st1 =>
    rw [hm1] at A
    intro ρ' H' σ' cls d e' R' Re' hh' X'
    obtain ⟨C, f, x1, x2, x3⟩ := id X'
    refine ⟨decide (c = e.cls ∨ c = 0), by rw [x2]; exact hcat _ _ _ x1, fun hb a na => ?_, fun hb => ?_⟩
    · simp only [decide_eq_true_eq] at hb
      simp only [if_pos hb] at A
      refine ⟨ρ', { sl := env1.sl, hx := some e }, st1, trivial, R', ⟨Re'.len, Re'.sl, fun e2 q2 => ?_, fun q hq => absurd (show q ∈ [] from hq) (by simp), fun p hp => by cases hp⟩, ?_⟩
      · cases q2
        exact ⟨(cls, d), rfl, X'⟩
      · show AftS γ _ ρ' H' (rtOnly (evSs G me fu h _ st1)) _ _
        split at A
        · rename_i v st2 hm2
          rw [hm2]
          exact fun ρ2 H2 v' e2 R2 T2 o2 => A ρ2 H2 v' (e'.trans e2) R2 T2 fun x hx' => e'.back x (o2 x hx')
        · exact A.elim
    · simp only [decide_eq_false_iff_not] at hb
      simp only [if_neg hb] at A
      exact A ρ' H' σ' cls d e' R' Re' hh' X'
end
/-- what a frame must say of its try statements -/
structure FrameOk (γ : Gm) (X : Cx) (sc : Sc) (hx : HX) (G : Orc) (me : FnDef) : Prop where
  st : X.stack = X.env :: X.outer
  fr : X.env.frame = some X.env.locals
  hn : ∀ (pn : List (Addr × Obj)) (xe : Value → Shared → Prop) (W' : WX), Takes (X.tr pn xe) W' → Hnd γ (X.tr pn xe) sc G me hx W'
  su : ∀ (a : Addr) (oe : Obj) (cls : Value) (d : Option Addr) (pn : List (Addr × Obj)) (slot : Nat) (n : Str), Zc cls d oe → (∃ vs, oe.data = .fields vs) → sc.N[slot]? = some n → sc.scope.names.lookup n = some .local → Hnd γ (X.suite a ((a, oe) :: pn)) (sc.suite (some n)) G me (hxS slot a cls d) noW
  so : ∀ (a : Addr) (oe : Obj) (cls : Value) (d : Option Addr) (pn : List (Addr × Obj)), Zc cls d oe → (∃ vs, oe.data = .fields vs) → Hnd γ (X.suite a ((a, oe) :: pn)) (sc.suite none) G me (hxO cls d) noW
def LamsOk (γ : Gm) (X : Cx) (sc : Sc) (hx : HX) (G : Orc) (me : FnDef) (fu : Nat) : Prop :=
  ∀ (pn : List (Addr × Obj)) (xe : Value → Shared → Prop) (W' : WX), Takes (X.tr pn xe) W' → ∀ (i : Nat) (app : Bool) (ks : List Nat) (s : Stmt), chkS sc me (.lams i app ks) s = true → PS (X.tr pn xe) s (tSI γ W' hx (evS G me fu (.lams i app ks)))
theorem LamsOk.none {γ : Gm} {X : Cx} {sc : Sc} {hx : HX} {G : Orc} {me : FnDef} {fu : Nat} (h : sc.lamA = []) : LamsOk γ X sc hx G me fu := fun pn xe W' _ i app ks s q => by
  unfold chkS at q
  split at q <;> simp_all
theorem Good.tr {γ : Gm} {X : Cx} {sc : Sc} {W W' : WX} (g : Good γ X sc W) {pn : List (Addr × Obj)} {xe : Value → Shared → Prop} (t : Takes (X.tr pn xe) W') : Good γ (X.tr pn xe) sc W' := ⟨g.hK, g.calm, g.hu, g.dp, g.hN, g.nd, g.nm, g.kd, g.st, t, g.free⟩
theorem Good.suite {γ : Gm} {X : Cx} {sc : Sc} {W : WX} (g : Good γ X sc W) {a : Addr} {pn : List (Addr × Obj)} {n : Option Str} : Good γ (X.suite a pn) (sc.suite n) MP.noW := ⟨g.hK, (fun h => by cases h), g.hu, g.dp, g.hN, g.nd, g.nm, g.kd, g.st, takes0, g.free⟩
section
variable {γ : Gm} {G : Orc} {me : FnDef} {fu : Nat}
theorem s_asgAll {p : Pt} {e : E} {tg v : Expr} {pos : Pos} {X : Cx} {sc : Sc} {W : WX} {hx : HX} (g : Good γ X sc W) (hn : Hnd γ X sc G me hx W) (hn0 : Hnd γ X sc G me hx noW) (h1 : sc.calm = true) (hxT : ∀ o σ, hx o σ) (h2 : notSD v = true) (h3 : notStar tg = true) (h4 : chkE sc me e v = true) (h5 : chkP sc me p tg = true)
    (h6 : ((!(swC sc.scope tg v) && swNone sc.scope tg v) || (swC sc.scope tg v == isLC v && asgB sc p e tg v)) = true) (c : calP (CallX γ X G) (GcOk γ X.mg) me p ∧ calE (CallX γ X G) (GcOk γ X.mg) me e) :
    PS X (.Assign [tg] v pos) (tSI γ W hx (evS G me fu (.asg p e))) := by
  have hk : X.env.scope.kind = .function := by rw [g.nm]; exact g.kd
  rw [Bool.or_eq_true] at h6
  rcases h6 with h6 | h6
  · simp only [Bool.and_eq_true, Bool.not_eq_true'] at h6
    exact s_asg g h2 h6.1 h6.2 h3 (sndE e v g hn (fun _ => hxT) h4 c.2).1 (sndP p tg g.noW rfl hn0 hxT h5 c.1)
  · rw [Bool.and_eq_true, beq_iff_eq] at h6
    obtain ⟨h6, h7⟩ := h6
    unfold asgB at h7
    split at h7
    · exact s_asgC g hn (fun _ => hxT) h5 h6 h4 c.2
    · exact s_asgC2 g hn (fun _ => hxT) h5 h6 h4 c.2
    · rename_i i j e1 e2 x px y py k1 p1 a b k2 p2
      simp only [Bool.and_eq_true, decide_eq_true_eq] at h7
      obtain ⟨⟨⟨⟨q1, q2⟩, q3⟩, q4⟩, q5⟩ := h7
      simp only [chkP, chkPs, Bool.and_eq_true, decide_eq_true_eq] at h5
      have hw := sw_par (env := X.env) (ts := [.Name x px, .Name y py]) (vs := [a, b]) (k := k1) (k2 := k2) (p := p1) (p2 := p2) hk (by rw [g.nm]; exact q1)
      have hw : swappedStores [.Tuple [.Name x px, .Name y py] k1 p1] (.Tuple [a, b] k2 p2) X.env = pure (some [x, y]) := by
        rw [hw, g.nm]
        exact congrArg (fun z => pure (some z)) q5
      simp only [chkE] at h4
      have kA := sndEs _ _ g hn (fun _ => hxT) h4 c.2
      refine PS.imp (ps_par (g.calm h1) g.nd (i := i) (j := j) (by rw [g.hN]; exact h5.2.1.2.1) (by rw [g.hN]; exact h5.2.2.1.2.1) q2 (by rw [g.nm]; exact q3) (by rw [g.nm]; exact q4) (s_args kA (chkEs_star h4)) hw (sw_with hk rfl)) fun D σ H q => ?_
      obtain ⟨ρ, env, st, hh, R, Re, A⟩ := par_read (is := [i, j]) hxT q
      refine ⟨ρ, env, st, hh, R, Re, ?_⟩
      cases hm : evEs G me [e1, e2] env st with
      | bad => rw [hm] at A; exact A
      | exc _ _ => rw [hm] at A; exact A
      | ok xs s1 =>
        rw [hm] at A
        intro ρ1 H1 vs e1 R1 T1 n1 o1
        obtain ⟨hl, hd⟩ := A ρ1 H1 vs e1 R1 T1 n1 o1
        rcases vs with _ | ⟨v1, _ | ⟨v2, _ | ⟨v3, vs⟩⟩⟩ <;> first | (simp at hl; done) | skip
        exact ⟨v1, v2, rfl, hd⟩
    · rename_i i j l e1 e2 e3 x px y py z pz k1 p1 a b d k2 p2
      simp only [Bool.and_eq_true, decide_eq_true_eq] at h7
      obtain ⟨⟨⟨⟨⟨⟨⟨q1, q2⟩, q2'⟩, q2''⟩, q3⟩, q4⟩, q4'⟩, q5⟩ := h7
      simp only [chkP, chkPs, Bool.and_eq_true, decide_eq_true_eq] at h5
      have hw := sw_par (env := X.env) (ts := [.Name x px, .Name y py, .Name z pz]) (vs := [a, b, d]) (k := k1) (k2 := k2) (p := p1) (p2 := p2) hk (by rw [g.nm]; exact q1)
      have hw : swappedStores [.Tuple [.Name x px, .Name y py, .Name z pz] k1 p1] (.Tuple [a, b, d] k2 p2) X.env = pure (some [x, y, z]) := by
        rw [hw, g.nm]
        exact congrArg (fun z => pure (some z)) q5
      simp only [chkE] at h4
      have kA := sndEs _ _ g hn (fun _ => hxT) h4 c.2
      refine PS.imp (ps_par3 (g.calm h1) g.nd (i := i) (j := j) (l := l) (by rw [g.hN]; exact h5.2.1.2.1) (by rw [g.hN]; exact h5.2.2.1.2.1) (by rw [g.hN]; exact h5.2.2.2.1.2.1) q2 q2' q2'' (by rw [g.nm]; exact q3) (by rw [g.nm]; exact q4) (by rw [g.nm]; exact q4') (s_args kA (chkEs_star h4)) hw (sw_with hk rfl)) fun D σ H q => ?_
      obtain ⟨ρ, env, st, hh, R, Re, A⟩ := par_read (is := [i, j, l]) hxT q
      refine ⟨ρ, env, st, hh, R, Re, ?_⟩
      cases hm : evEs G me [e1, e2, e3] env st with
      | bad => rw [hm] at A; exact A
      | exc _ _ => rw [hm] at A; exact A
      | ok xs s1 =>
        rw [hm] at A
        intro ρ1 H1 vs e1 R1 T1 n1 o1
        obtain ⟨hl, hd⟩ := A ρ1 H1 vs e1 R1 T1 n1 o1
        rcases vs with _ | ⟨v1, _ | ⟨v2, _ | ⟨v3, _ | ⟨v4, vs⟩⟩⟩⟩ <;> first | (simp at hl; done) | skip
        exact ⟨v1, v2, v3, rfl, hd⟩
    · cases h7
mutual
theorem sndS : ∀ (s : S) (a : Stmt) {X : Cx} {sc : Sc} {W : WX} {hx : HX}, Good γ X sc W → PassesOwn (model X.prog X.w) X.A X.env X.xe → Hnd γ X sc G me hx W → Hnd γ X sc G me hx noW → (sc.calm = true → ∀ o σ, hx o σ) → (sc.plain = true → FrameOk γ X sc hx G me) → LamsOk γ X sc hx G me fu → chkS sc me s a = true →
    calS (CallX γ X G) (GcOk γ X.mg) (RaiseAny γ X.prog X.w X.K X.mg X.base) (CatchOk γ X.K X.mg) me s → PS X a (tSI γ W hx (evS G me fu s))
  | .asg p e, a, X, sc, W, hx, g, hp, hn, hn0, hT, fo, lm, h, c => by
    cases a with
    | Assign tgs v pos =>
      rcases tgs with _ | ⟨tg, _ | ⟨t2, tgs⟩⟩ <;> first | (simp [chkS] at h; done) | skip
      simp only [chkS, Bool.and_eq_true] at h
      obtain ⟨⟨⟨⟨⟨h1, h2⟩, h3⟩, h4⟩, h5⟩, h6⟩ := h
      exact s_asgAll g hn hn0 h1 (hT h1) h2 h3 h4 h5 h6 c
    | _ => simp [chkS] at h
  | .aug i op e, a, X, sc, W, hx, g, hp, hn, hn0, hT, fo, lm, h, c => by
    cases a with
    | AugAssign tg o v pos =>
      cases tg <;> first | (simp [chkS] at h; done) | skip
      simp only [chkS, Bool.and_eq_true, decide_eq_true_eq] at h
      obtain ⟨⟨⟨⟨⟨h1, h2⟩, h3⟩, h4⟩, h5⟩, h6⟩ := h
      subst h3
      exact s_aug h2 (hT h1) g h4 h5 (sndE e v g hn hT h6 c).1
    | _ => simp [chkS] at h
  | .augA _ _ _ _ _ _, a, X, sc, W, hx, g, hp, hn, hn0, hT, fo, lm, h, c => by
    simp [chkS] at h
  | .dput x ks e, a, X, sc, W, hx, g, hp, hn, hn0, hT, fo, lm, h, c => by
    cases a with
    | Assign tgs v pos =>
      simp only [chkS] at h
      split at h
      · rename_i o as tg hsub
        obtain ⟨k, tp, p', rfl, rfl⟩ := subB_is hsub
        simp only [Bool.and_eq_true, Bool.not_eq_true'] at h
        obtain ⟨⟨⟨⟨h1, h2⟩, h3⟩, h4⟩, h5⟩ := h
        exact s_dput g h1 h2 (sndE x o g hn hT h3 c.1).1 (sndEs ks _ g hn hT h4 c.2.1) (chkEs_star h4) (sndE e v g hn hT h5 c.2.2).1
      · cases h
    | _ => simp [chkS] at h
  | .kput x k e, a, X, sc, W, hx, g, hp, hn, hn0, hT, fo, lm, h, c => by
    cases a with
    | Assign tgs v pos =>
      simp only [chkS] at h
      split at h
      · rename_i o i tg hsub
        obtain ⟨p', rfl, rfl⟩ := subS_is hsub
        simp only [Bool.and_eq_true, Bool.not_eq_true'] at h
        obtain ⟨⟨⟨⟨h1, h2⟩, h3⟩, h4⟩, h5⟩ := h
        exact s_kput g h1 h2 (sndE x o g hn hT h3 c.1).1 (sndE k i g hn hT h4 c.2.1).1 (sndE e v g hn hT h5 c.2.2).1
      · cases h
    | _ => simp [chkS] at h
  | .ex e, a, X, sc, W, hx, g, hp, hn, hn0, hT, fo, lm, h, c => by
    cases a with
    | Expr v pos =>
      simp only [chkS, Bool.and_eq_true] at h
      exact s_ex (sndE e v g hn hT h.2 c).1 (sw_drop h.1)
    | _ => simp [chkS] at h
  | .ret e, a, X, sc, W, hx, g, hp, hn, hn0, hT, fo, lm, h, c => by
    cases a with
    | Return v pos =>
      cases v with
      | none => simp [chkS] at h
      | some v =>
        simp only [chkS] at h
        exact s_ret (sndE e v g hn hT h c).1
    | _ => simp [chkS] at h
  | .ret0, a, X, sc, W, hx, g, hp, hn, hn0, hT, fo, lm, h, c => by
    cases a with
    | Return v pos =>
      cases v with
      | none => exact s_ret0
      | some v => simp [chkS] at h
    | _ => simp [chkS] at h
  | .pass, a, X, sc, W, hx, g, hp, hn, hn0, hT, fo, lm, h, c => by
    cases a with
    | Pass pos => exact s_pass
    | _ => simp [chkS] at h
  | .brk, a, X, sc, W, hx, g, hp, hn, hn0, hT, fo, lm, h, c => by
    cases a with
    | Break pos => exact s_brk
    | _ => simp [chkS] at h
  | .cont, a, X, sc, W, hx, g, hp, hn, hn0, hT, fo, lm, h, c => by
    cases a with
    | Continue pos => exact s_cont
    | _ => simp [chkS] at h
  | .ite t x y, a, X, sc, W, hx, g, hp, hn, hn0, hT, fo, lm, h, c => by
    cases a with
    | If t' p q pos =>
      simp only [chkS, Bool.and_eq_true] at h
      exact s_iteS (sndE t t' g hn hT h.1.1 c.1).2 (sndSs x p g hp hn hn0 hT fo lm h.1.2 c.2.1) (sndSs y q g hp hn hn0 hT fo lm h.2 c.2.2)
    | _ => simp [chkS] at h
  | .whl t b, a, X, sc, W, hx, g, hp, hn, hn0, hT, fo, lm, h, c => by
    cases a with
    | While t' p q pos =>
      cases q with
      | cons _ _ => simp [chkS] at h
      | nil =>
        simp only [chkS, Bool.and_eq_true] at h
        exact s_whl hp (sndE t t' g hn hT h.1 c.1).2 (sndSs b p g hp hn hn0 hT fo lm h.2 c.2)
    | _ => simp [chkS] at h
  | .for_ p it b, a, X, sc, W, hx, g, hp, hn, hn0, hT, fo, lm, h, c => by
    cases a with
    | For tg iter q r pos =>
      cases r with
      | cons _ _ => simp [chkS] at h
      | nil =>
        simp only [chkS, Bool.and_eq_true] at h
        obtain ⟨⟨⟨⟨h1, h2⟩, h3⟩, h4⟩, h5⟩ := h
        exact s_for hp (g.calm h1) (sndI it iter g hn hT h3 c.2.1) (sndP p tg g.noW rfl hn0 (hT h1) h4 c.1) (sndSs b q g hp hn hn0 hT fo lm h5 c.2.2) (set_plain h2 X.env)
    | _ => simp [chkS] at h
  | .raise k nm es, a, X, sc, W, hx, g, hp, hn, hn0, hT, fo, lm, h, c => by
    cases a with
    | Raise x fr pos =>
      simp only [chkS, Bool.and_eq_true] at h
      obtain ⟨h1, h2⟩ := h
      rcases Bool.or_eq_true_iff.mp h2 with h2 | h2
      · unfold raiB at h2
        split at h2
        · simp only [Bool.and_eq_true, decide_eq_true_eq] at h2
          obtain ⟨h2, h3⟩ := h2
          subst h2
          exact s_raise g h1 h3 c.1
        · cases h2
      · unfold raiV at h2
        split at h2
        · simp only [Bool.and_eq_true, decide_eq_true_eq] at h2
          obtain ⟨⟨⟨h2, h3⟩, h4⟩, h5⟩ := h2
          subst h2
          exact s_raiseV g h1 h3 h4 c.1 (sndE _ _ g hn hT h5 c.2.1).1
        · cases h2
    | _ => simp [chkS] at h
  | .try_ b k nm slot hh, a, X, sc, W, hx, g, hp, hn, hn0, hT, fo, lm, h, c => by
    cases a with
    | Try body hs orelse fin pos =>
      simp only [chkS, Bool.and_eq_true, List.isEmpty_iff] at h
      obtain ⟨⟨rfl, rfl⟩, h⟩ := h
      split at h
      · rename_i x n su hb
        obtain ⟨np, b0, bs, pos', rfl, rfl⟩ := hndB_eq hb
        simp only [Bool.and_eq_true, decide_eq_true_eq] at h
        obtain ⟨⟨⟨⟨⟨⟨h1, h2⟩, h3⟩, h4⟩, h5⟩, h6⟩, h7⟩ := h
        subst h2
        have F := fo h1
        exact s_try g F.st F.fr h4 h5 h3 c.1
          (fun W' pn xe tk hp' => sndSs b body (g.tr tk) hp' (F.hn pn xe W' tk) (F.hn pn xe noW takes0) hT (fun _ => ⟨F.st, F.fr, F.hn, F.su, F.so⟩) lm h6 c.2.1)
          (fun a oe cls d pn z1 z2 => sndSs hh (b0 :: bs) g.suite PassesOwn.never (F.su a oe cls d pn slot n z1 z2 h4 h5) (F.su a oe cls d pn slot n z1 z2 h4 h5) (fun z => by cases z) (fun z => by cases z) (LamsOk.none rfl) h7 (c.2.2 _))
      · cases h
    | _ => simp [chkS] at h
  | .tryO b k nm hh, a, X, sc, W, hx, g, hp, hn, hn0, hT, fo, lm, h, c => by
    cases a with
    | Try body hs orelse fin pos =>
      simp only [chkS, Bool.and_eq_true, List.isEmpty_iff] at h
      obtain ⟨⟨rfl, rfl⟩, h⟩ := h
      split at h
      · rename_i x  su hb
        obtain ⟨np, b0, bs, pos', rfl, rfl⟩ := hndB_eq hb
        simp only [Bool.and_eq_true, decide_eq_true_eq] at h
        obtain ⟨⟨⟨⟨h1, h2⟩, h3⟩, h6⟩, h7⟩ := h
        subst h2
        have F := fo h1
        exact s_tryO g F.st F.fr h3 c.1
          (fun W' pn xe tk hp' => sndSs b body (g.tr tk) hp' (F.hn pn xe W' tk) (F.hn pn xe noW takes0) hT (fun _ => ⟨F.st, F.fr, F.hn, F.su, F.so⟩) lm h6 c.2.1)
          (fun a oe cls d pn z1 z2 => sndSs hh (b0 :: bs) g.suite PassesOwn.never (F.so a oe cls d pn z1 z2) (F.so a oe cls d pn z1 z2) (fun z => by cases z) (fun z => by cases z) (LamsOk.none rfl) h7 (c.2.2 _))
      · cases h
    | _ => simp [chkS] at h
  | .dead, a, X, sc, W, hx, g, hp, hn, hn0, hT, fo, lm, h, c => ⟨fun pins s σ H D I q => by
      obtain ⟨ρ, env, st, hh, R, Re, A⟩ := q
      simp only [evS] at A
      exact A.elim⟩
  | .lams i app ks, a, X, sc, W, hx, g, hp, hn, hn0, hT, fo, lm, h, c => by
    exact lm X.pn X.xe W g.tk i app ks a h
theorem sndSs : ∀ (ss : List S) (as : List Stmt) {X : Cx} {sc : Sc} {W : WX} {hx : HX}, Good γ X sc W → PassesOwn (model X.prog X.w) X.A X.env X.xe → Hnd γ X sc G me hx W → Hnd γ X sc G me hx noW → (sc.calm = true → ∀ o σ, hx o σ) → (sc.plain = true → FrameOk γ X sc hx G me) → LamsOk γ X sc hx G me fu → chkSs sc me ss as = true →
    calSs (CallX γ X G) (GcOk γ X.mg) (RaiseAny γ X.prog X.w X.K X.mg X.base) (CatchOk γ X.K X.mg) me ss → PSs X as (tSI γ W hx (evSs G me fu ss))
  | [], [], _, _, _, _, _, _, _, _, _, _, _, _, _ => s_nil
  | [], _ :: _, _, _, _, _, _, _, _, _, _, _, _, h, _ => by simp [chkSs] at h
  | _ :: _, [], _, _, _, _, _, _, _, _, _, _, _, h, _ => by simp [chkSs] at h
  | s :: ss, a :: as, _, _, _, _, g, hp, hn, hn0, hT, fo, lm, h, c => by
    simp only [chkSs, Bool.and_eq_true] at h
    exact s_cons (sndS s a g hp hn hn0 hT fo lm h.1 c.1) (sndSs ss as g hp hn hn0 hT fo lm h.2 c.2)
end
end
end MP

set_option linter.all false
set_option autoImplicit false
set_option Elab.async false
set_option maxRecDepth 100000
set_option maxHeartbeats 2000000
namespace MP
open PySem L2 PySem.Spec PyProof.Rows LamX NdefX

/-! ### lambdas: their parameters -/
def noPar : Arguments := ⟨[], [], none, [], [], none, []⟩
def onePar (x : Str) (p : Pos) (i : Int) (j : Nat) (q : Pos) : Arguments := ⟨[], [⟨x, none, p⟩], none, [], [], none, [.Constant (.int i) j q]⟩
def parB (scope : Scope) : Arguments → Bool
  | ⟨[], [], none, [], [], none, []⟩ => true
  | ⟨[], [⟨x, none, _⟩], none, [], [], none, [.Constant (.int _) _ _]⟩ => decide (scope.names.lookup x = some .local)
  | _ => false
theorem parB_cases {scope : Scope} {a : Arguments} (h : parB scope a = true) : a = noPar ∨ ∃ x p i j q, a = onePar x p i j q ∧ scope.names.lookup x = some .local := by
  unfold parB at h
  split at h
  · exact .inl rfl
  · exact .inr ⟨_, _, _, _, _, rfl, of_decide_eq_true h⟩
  · cases h
def dvOf (a : Arguments) : List V := match a.defaults with
  | [.Constant (.int i) _ _] => [.int i]
  | _ => []
def LIs (L : LT) (a : LamA) : Prop := L.params = a.params ∧ L.body = a.body ∧ L.scope = a.scope ∧ L.dv = dvOf a.params
/-- the parameters that stand before the captured names -/
def parNm (a : Arguments) : List Str := match a.args with
  | [x] => [x.arg]
  | _ => []
/-- how a call without arguments binds (by rfl, of a given text) -/
structure LamBind (a : LamA) : Prop where
  non : dvOf a.params = [] → ∀ (q : Str) (cl : List (Str × Addr)) (doc pm cv ctv : Value), bindArgs (PySem.W.kdv_fn "<lambda>" q a.params (.expr a.body) a.scope cl .none doc pm cv ctv) ⟨[], []⟩ = pure []
  one : dvOf a.params ≠ [] → ∀ (q : Str) (cl : List (Str × Addr)) (t : Addr) (doc pm cv ctv u : Value) (s : Shared), s.heap.get? t = some (PySem.W.kdv_tup [u]) →
    BindsTo s (PySem.W.kdv_fn "<lambda>" q a.params (.expr a.body) a.scope cl (.ref t) doc pm cv ctv) ⟨[], []⟩ ((parNm a.params).zip [u])
/-- a call of the lambda finds its object, its code, its binding -/
structure LamCall (s : Shared) (L : LT) (f c' : Addr) (dV doc pm ctv : Value) (us : List Value) : Prop where
  obj : s.heap.get? f = some (PySem.W.kdv_obj "<lambda>" L.qual L.params (.expr L.body) L.scope L.cl dV doc pm c' ctv)
  code : s.heap.CodeRec (.ref c') L.qual
  vals : Vals (dvOf L.params) us
  bind : BindsTo s (PySem.W.kdv_fn "<lambda>" L.qual L.params (.expr L.body) L.scope L.cl dV doc pm (.ref c') ctv) ⟨[], []⟩ ((parNm L.params).zip us)
theorem lam_call {P : Program} {w : World} {H : Hp} {s : Shared} {L : LT} {f : Addr} {a : LamA} (hok : HOk P w H s.heap) (hp : parB a.scope a.params = true) (hb : LamBind a) (hl : LIs L a) (h : LamAt H L f) : ∃ c' dV doc pm ctv us, LamCall s L f c' dV doc pm ctv us := by
  obtain ⟨c', dV, o1, o2, dflt⟩ := h
  obtain ⟨⟨doc, pm, ctv, there⟩, _, _⟩ := hok f _ o1
  have code := codeO_at hok o2
  obtain ⟨Lp, Lb, Lsc, Lq, Lcl, Ldv⟩ := L
  obtain ⟨rfl, rfl, rfl, same⟩ := hl
  simp only at same
  subst same
  rcases parB_cases hp with no | ⟨x, p, i, j, q, one, isLoc⟩
  · rcases dflt with ⟨rfl, _⟩ | ⟨_, _, some_, _⟩
    · exact ⟨c', _, doc, pm, ctv, [], there, code, by rw [no]; exact .nil, by simp only [no, noPar, parNm, List.zip_nil_left]; simpa only [no, noPar] using BindsTo.of_eq (hb.non (by rw [no]; rfl) Lq Lcl doc pm (.ref c') ctv)⟩
    · simp [no, noPar, dvOf] at some_
  · rcases dflt with ⟨_, none_⟩ | ⟨t, rfl, some_, tup⟩
    · simp [one, onePar, dvOf] at none_
    · obtain ⟨⟨us, vals, at_⟩, _, _⟩ := hok t _ tup
      have single : ∃ u, us = [u] := by
        have len := vals.length
        rw [one] at len
        match us, len with
        | [u], _ => exact ⟨u, rfl⟩
      obtain ⟨u, rfl⟩ := single
      have b := hb.one some_ Lq Lcl t doc pm (.ref c') ctv u s at_
      exact ⟨c', _, doc, pm, ctv, [u], there, code, vals, b⟩
/-! ### the table of a code object, told of abstract heaps alone -/
/-- an entry for a new code object goes behind the others -/
def entered (H : Hp) (Pt c' : Addr) (ps : Array Value) (pos : Pos) (q : Str) : Hp := upd (upd H Pt (.tbl (ps ++ #[rawInt pos.line, rawInt pos.col, .ref c']))) c' (CodeO c' q)
/-- H1 knows all that H knows, the tables maybe longer, and forgets nothing -/
structure Knows (T : List NTab) (H H1 : Hp) : Prop where
  ext : ExtN H H1
  all : ∀ b, H1 b = Option.none → H b = Option.none
  tabs : TabsN T H1
theorem Knows.trans {T : List NTab} {H H1 H2 : Hp} (a : Knows T H H1) (b : Knows T H1 H2) : Knows T H H2 := ⟨a.ext.trans b.ext, fun x hx => a.all x (b.all x hx), b.tabs⟩
theorem Knows.fresh {T : List NTab} {H : Hp} {a : Addr} {o : HO} (ha : H a = Option.none) (t : TabsN T H) : Knows T H (upd H a o) := by
  have same : ∀ b u, H b = some u → upd H a o b = some u := fun b u hb => (upd_ne (ne_of_none hb ha)).trans hb
  exact ⟨ExtN.of same, fun b hb => upd_none hb, t.ext same⟩
theorem Knows.entered {T : List NTab} {nm : Nat → Nat → Str} {H : Hp} {Pt c' : Addr} {ps : Array Value} {pos : Pos} {q : Str} (t : TabsN T H) (hm : (Pt, nm) ∈ T) (one : ∀ p ∈ T, p.1 = Pt → p.2 = nm) (hP : H Pt = some (.tbl ps)) (hc : H c' = Option.none) (hq : nm pos.line pos.col = q) :
    Knows T H (entered H Pt c' ps pos q) := by
  have apart : Pt ≠ c' := ne_of_none hP hc
  have off : ∀ b, b ≠ Pt → b ≠ c' → MP.entered H Pt c' ps pos q b = H b := fun b h1 h2 => (upd_ne h2).trans (upd_ne h1)
  have stay : ExtN H (MP.entered H Pt c' ps pos q) := fun b u hb notTab => by
    rw [off b (fun z => by subst z; rw [hP] at hb; exact notTab ps (Option.some.inj hb).symm) (ne_of_none hb hc)]
    exact hb
  have known : ∀ {c0 : Addr} {q0 : Str}, H c0 = some (CodeO c0 q0) → MP.entered H Pt c' ps pos q c0 = some (CodeO c0 q0) := fun h => stay _ _ h codeO_ne
  refine ⟨stay, fun b hb => upd_none (upd_none hb), fun p hp => ?_⟩
  obtain ⟨old, o1, o2, o3⟩ := t p hp
  rcases Classical.em (p.1 = Pt) with here | away
  · have eOld : old = ps := by
      rw [here, hP] at o1
      exact (HO.tbl.inj (Option.some.inj o1)).symm
    subst eOld
    have nmp := one p hp here
    refine ⟨old ++ #[rawInt pos.line, rawInt pos.col, .ref c'], ?_, ?_, fun at_ cv found => ?_⟩
    · rw [here]
      exact (upd_ne apart).trans upd_same
    · rw [Array.toList_append]
      exact PySem.TriplesOk_snoc _ _ _ _ o2
    · rw [Array.toList_append] at found
      rcases among_app2 old.toList o2 found with before | ⟨new, sameLine, sameCol⟩
      · exact (o3 at_ cv before).imp fun c0 w => ⟨w.1, known w.2⟩
      · exact ⟨c', new, by rw [nmp, ← sameLine, ← sameCol, hq]; exact upd_same⟩
  · exact ⟨old, by rw [off _ away (ne_of_none o1 hc)]; exact o1, o2, fun at_ cv found => (o3 at_ cv found).imp fun c0 w => ⟨w.1, known w.2⟩⟩
/-! ### a lambda is made -/
section
variable {X : Cx} {pins : List (Addr × Obj)} {σ : L2.St} {H : Hp} {s : Shared}
/-- the words of the lambda that X makes -/
abbrev wordsOf (X : Cx) (params : Arguments) (body : Expr) (scope : Scope) : LT := ⟨params, body, scope, X.env.qual ++ "<lambda>", cloFrom X.env.cells scope.names [], dvOf params⟩
/-- a new object that a fact about itself alone describes -/
theorem seen_new {o : Obj} {φ : Heap → Prop} {tk : Nat} (I : Inv X pins σ H s) (live : o.isFreed = false) (here : φ (s.heap.push o)) (only : ∀ h1 h2 : Heap, φ h1 → (∀ u, h1.get? s.heap.objs.size = some u → h2.get? s.heap.objs.size = some u) → φ h2) :
    Inv X pins σ (upd H s.heap.objs.size (.ext φ)) { s with heap := s.heap.push o, toks := tk } :=
  I.laid (fun _ _ found => Heap.get?_push_of_some _ found) Nat.le.refl ⟨here, ⟨o, Heap.get?_push_size _ live⟩, only⟩
theorem seen_lam {params : Arguments} {body : Expr} {scope : Scope} {c' : Addr} {dV doc pm ctv : Value} {tk : Nat} (I : Inv X pins σ H s) :
    Inv X pins σ (upd H s.heap.objs.size (LamO s.heap.objs.size (wordsOf X params body scope) c' dV)) { s with heap := s.heap.push (PySem.W.kdv_obj "<lambda>" (X.env.qual ++ "<lambda>") params (.expr body) scope (cloFrom X.env.cells scope.names []) dV doc pm c' ctv), toks := tk } :=
  seen_new I rfl ⟨doc, pm, ctv, Heap.get?_push_size _ rfl⟩ fun _ _ ⟨d, p, v, found⟩ keep => ⟨d, p, v, keep _ found⟩
theorem seen_dfl {us : List Value} {dv : List V} (r : Vals dv us) (I : Inv X pins σ H s) : Inv X pins σ (upd H s.heap.objs.size (DfO s.heap.objs.size dv)) { s with heap := s.heap.push (PySem.W.kdv_tup us) } :=
  seen_new (tk := s.toks) I rfl ⟨us, r, Heap.get?_push_size _ rfl⟩ fun _ _ ⟨vs, q, found⟩ keep => ⟨vs, q, keep _ found⟩
/-- what stands behind the making of the function object -/
def Done (X : Cx) (pins : List (Addr × Obj)) (σ : L2.St) (T : List NTab) (H : Hp) (L : LT) (dV : Value) (Q : Value → Shared → Prop) : Prop :=
  ∀ (f c' : Addr) (H1 : Hp) (s1 : Shared), Inv X pins σ H1 s1 → Knows T H H1 → H1 f = some (LamO f L c' dV) → H1 c' = some (CodeO c' L.qual) → Q (.ref f) s1
theorem lam_obj {T : List NTab} {nm : Nat → Nat → Str} {c Pt : Addr} {params : Arguments} {body : Expr} {scope : Scope} {pos : Pos} {dV : Value} {E Q : Value → Shared → Prop} (I : Inv X pins σ H s) (tb : TabB X.base X.mg c Pt) (own : X.env.code = .ref c) (hm : (Pt, nm) ∈ T) (hq : nm pos.line pos.col = X.env.qual ++ "<lambda>")
    (one : ∀ p ∈ T, p.1 = Pt → p.2 = nm) (t : TabsN T H) (cells : ∀ y ∈ scope.names, y.2 = .free → ∃ a, X.env.cells.lookup y.1 = some a) (goal : Done X pins σ T H (wordsOf X params body scope) dV Q) :
    wpAny (model X.prog X.w) X.A (makeTail "<lambda>" (X.env.qual ++ "<lambda>") params (.expr body) scope X.env dV .none none pos pos.line) Q E s := by
  obtain ⟨ps, tabAt, triples, told⟩ := t _ hm
  have globals := I.mod.glob.keeps I.bk
  have builtins := tb.bm.keeps I.bk
  have tabObj := I.hok Pt _ tabAt
  have codeHd := tb.code.keeps I.bk
  have clos := closure_ok (env := X.env) cells
  rcases entry : codeAmong pos ps.toList with _ | v
  · refine PySem.W.kdv_makeTail clos I.ok.glob globals own codeHd tabObj triples entry tb.gP builtins ?_
    intro c' ctv doc h' tk others young small rec grown
    have newCode : H c' = Option.none := I.hok.fresh young
    have codeThere : ∃ (oc : Obj) (vs : Array Value) (k : Tok), h'.get? c' = some oc ∧ oc.data = .fields vs ∧ vs[1]? = some (.str (X.env.qual ++ "<lambda>") k) := by
      obtain ⟨_, oc, vs, k, same, at_, dat, name⟩ := rec
      cases same
      exact ⟨oc, vs, k, at_, dat, name⟩
    have K1 := Knows.entered (pos := pos) t hm one tabAt newCode hq
    have J := inv_table (t' := tk) I tabAt (fun _ _ ne found => others _ _ ne found) grown young codeThere
    have free := J.hok.fresh Nat.le.refl
    have K2 := Knows.fresh (o := LamO h'.objs.size (wordsOf X params body scope) c' dV) free K1.tabs
    exact goal h'.objs.size c' _ _ (seen_lam J) (K1.trans K2) upd_same (K2.ext _ _ upd_same codeO_ne)
  · obtain ⟨c', rfl, code⟩ := told pos v entry
    simp only [hq] at code
    refine PySem.W.kdv_makeTailHit clos I.ok.glob globals own codeHd tabObj triples entry builtins ?_
    intro ctv doc h' tk keeps larger
    have J : Inv X pins σ H { s with heap := h', toks := tk } := I.kept keeps
    have K2 := Knows.fresh (o := LamO h'.objs.size (wordsOf X params body scope) c' dV) (J.hok.fresh Nat.le.refl) t
    exact goal h'.objs.size c' _ _ (seen_lam J) K2 upd_same (K2.ext _ _ code codeO_ne)
/-- the lambda as an expression -/
theorem lam_mk {T : List NTab} {nm : Nat → Nat → Str} {c Pt : Addr} {params : Arguments} {body : Expr} {scope : Scope} {pos : Pos} {Q : Value → Shared → Prop} (I : Inv X pins σ H s) (tb : TabB X.base X.mg c Pt) (own : X.env.code = .ref c) (hm : (Pt, nm) ∈ T) (hq : nm pos.line pos.col = X.env.qual ++ "<lambda>")
    (one : ∀ p ∈ T, p.1 = Pt → p.2 = nm) (t : TabsN T H) (cells : ∀ y ∈ scope.names, y.2 = .free → ∃ a, X.env.cells.lookup y.1 = some a) (hp : parB scope params = true)
    (goal : ∀ (f : Addr) (H1 : Hp) (s1 : Shared), Inv X pins σ H1 s1 → Knows T H H1 → LamAt H1 (wordsOf X params body scope) f → Q (.ref f) s1) : wpAny (model X.prog X.w) X.A (eval (.Lambda params body scope pos) X.env) Q X.xe s := by
  rcases parB_cases hp with rfl | ⟨x, p, i, j, q, rfl, _⟩
  · apply PySem.W.kla_eval rfl
    have step := lam_obj (params := noPar) (body := body) (scope := scope) (dV := .none) (E := X.xe) (Q := Q) I tb own hm hq one t cells fun f c' H1 s1 J k o1 o2 => goal f H1 s1 J k ⟨c', .none, o1, o2, .inl ⟨rfl, rfl⟩⟩
    simpa [makeFunction_eq, noPar] using step
  · apply PySem.W.kdv_lam rfl rfl
    have num : PE X (.Constant (.int i) j q) (tC (.int i)) := pe_int
    refine PySem.W.kdv_all1 (wpAny_mono (num.run pins s σ H (fun v Hv => v = .int i ∧ Hv = H) I ⟨rfl, rfl⟩) ?_ fun _ _ z => z)
    rintro u s1 ⟨_, _, J, rel, rfl, rfl⟩
    apply PySem.W.kdv_all0
    have free := J.hok.fresh (Nat.le_refl s1.heap.objs.size)
    have K1 := Knows.fresh (o := DfO s1.heap.objs.size [V.int i]) free t
    have vals : Vals [V.int i] [u] := .cons rel .nil
    have step := lam_obj (params := onePar x p i j q) (body := body) (scope := scope) (dV := .ref s1.heap.objs.size) (E := X.xe) (Q := Q) (seen_dfl vals J) tb own hm hq one K1.tabs cells fun f c' H2 s2 J2 k o1 o2 =>
      goal f H2 s2 J2 (K1.trans k) ⟨c', _, o1, o2, .inr ⟨_, rfl, List.cons_ne_nil (V.int i) [], k.ext _ _ upd_same (fun _ z => by unfold DfO at z; cases z)⟩⟩
    rw [makeFunction_eq]
    simp [onePar]
    exact wpAny_bind (wpAny_newTextTuple step)
end
end MP

set_option linter.all false
set_option autoImplicit false
set_option Elab.async false
set_option maxRecDepth 100000
set_option maxHeartbeats 1000000
namespace MP
open PySem L2 PySem.Spec PyProof.Rows LamX NdefX

/-! ### the start and the end of a frame -/
def hx0 : HX := { p := fun _ _ => True }
theorem start_env {γ : Gm} {hx : HX} {ρ : List Addr} {H : Hp} {fd : FnDef} {xs : List IV} {vs : List V} {σ : L2.St} (hl : σ.length = fd.N.length) (hn : xs.length ≤ fd.N.length) (hs : ∀ (j : Nat) (v : V), vs[j]? = some v → σ[j]? = some (some v)) (r : RepVs γ ρ H xs vs) (la : ∀ p, hx.at_ = some p → LamAt H p.1 p.2) :
    REnv γ hx ρ H (startE fd xs) σ := by
  refine ⟨?_, fun j x q => ?_, fun e q => (by cases q), fun q hq => (by cases hq), la⟩
  · unfold startE
    simp only [List.length_append, List.length_map, List.length_replicate]
    omega
  · unfold startE at q
    simp only at q
    by_cases hj : j < xs.length
    · rw [List.getElem?_append_left (by simpa using hj), List.getElem?_map, List.getElem?_eq_getElem hj] at q
      simp only [Option.map_some, Option.some.injEq] at q
      obtain ⟨v, h1, h2⟩ := r.get (i := j) (x := x) (by rw [List.getElem?_eq_getElem hj, q])
      exact ⟨v, hs j v h1, h2⟩
    · rw [List.getElem?_append_right (by simpa using Nat.le_of_not_lt hj), List.getElem?_replicate] at q
      split at q <;> cases q
theorem exit_aft {γ : Gm} {hx : HX} {ρ : List Addr} {H : Hp} {r : RS} {Q : VK} {E : XK} (h : Aft γ ρ H (exitF r) Q E) : AftS γ hx ρ H r { nx := fun _ H' => Q .non H', rt := Q } (fun cls d _ H => E cls d H) := by
  cases r with
  | nx env st => exact fun ρ' H' σ' e R Re hh => h ρ' H' .non e R rfl (fun a ha => by simp [ownA] at ha)
  | rt v st => exact h
  | bk _ _ => exact h.elim
  | ct _ _ => exact h.elim
  | exc e env st => exact fun ρ' H' σ' cls d e' R Re hh X => h ρ' H' cls d e' R X
  | bad => exact h
theorem ret_eval {G : Orc} {me : FnDef} {fu : Nat} {e : E} {env : Env} {st : Store} : exitF (evSs G me fu [.ret e] env st) = evE G me e env st := by
  simp only [evSs, evS]
  cases evE G me e env st <;> rfl
theorem callM_succ {fu n : Nat} {fd : FnDef} {xs : List IV} {st : Store} : callM fu (n + 1) fd xs st = if xs.length = fd.np then exitF (evSs (callM fu n) fd fu fd.body (startE fd xs) st) else .bad := rfl

/-! ### the body of a lambda, in the modules' context of a nested function -/
def scL (N : List Str) (scope : Scope) : Sc := { N := N, scope := scope, raw := scope }
/-- how many parameters stand before the captured names -/
def parLen (a : LamA) : Nat := (parNm a.params).length
/-- the lambda a, run at level n as lam: its captured names hold vs -/
def LamSnd (γ : Gm) (P : Program) (w : World) (K : PySem.W.Frag) (mg : Str → Option Value) (base : Heap) (fu n : Nat) (lam : FnDef) (a : LamA) : Prop :=
  ∀ (A : Around) (outer : List PySem.Env) (s : Shared) (H : Hp) (ρ : List Addr) (st : Store) (xs : List IV) (vs : List V) (L : LT) (f : Addr) (Q : VK) (E : XK), Room n A → Env0 P w K mg base A outer s H → LIs L a → LamAt H L f →
    CellsAt L.cl (lam.N.drop (parLen a)) (vs.map some) s.heap H → Rep γ ρ st H → RepVs γ ρ H xs vs → Aft γ ρ H (callM fu n lam (List.replicate (parLen a) (.int 0) ++ xs) st) Q E → codeAny (model P w) A (.call (.ref f) ⟨[], []⟩) (CR (L2.CX P w) outer P w H s Q E) s
theorem zeros_rep {γ : Gm} {ρ : List Addr} {H : Hp} : ∀ d : Nat, RepVs γ ρ H (List.replicate d (.int 0)) (List.replicate d (V.int 0))
  | 0 => rfl
  | d + 1 => by simp only [List.replicate_succ, RepVs]; exact ⟨_, _, rfl, rfl, zeros_rep d⟩
theorem lam_run {γ : Gm} {P : Program} {w : World} {K : PySem.W.Frag} {mg : Str → Option Value} {base : Heap} {fu n : Nat} {lam : FnDef} {a : LamA} {e : E} (hK : γ.K = K) (free : ∀ x ∈ bNames, mg x = none) (one : lam.body = [.ret e]) (names : nscB lam.N (parNm a.params) (lam.N.drop (parLen a)) a.scope = true)
    (par : parB a.scope a.params = true) (zero : dvOf a.params = List.replicate (parLen a) (V.int 0)) (binds : LamBind a) (chk : chkE (scL lam.N a.scope) lam e a.body = true) (cal : ∀ A, Room n A → calE (CallOk γ P w K mg base A (callM fu n)) (GcOk γ mg) lam e) : LamSnd γ P w K mg base fu (n + 1) lam a := by
  intro A outer s H ρ st xs vs L f Q E room e0 isL there cells R rep after
  obtain ⟨c', dV, doc, pm, ctv, us, call⟩ := lam_call e0.hok par binds isL there
  obtain ⟨Lp, Lb, Lsc, Lq, Lcl, Ldv⟩ := L
  obtain ⟨rfl, rfl, rfl, -⟩ := isL
  have S := nscope_by names
  have deeper := room.deeper (envF ⟨"<lambda>", Lq, a.params, [], a.scope, Lcl, c'⟩ f s.heap.objs.size)
  rw [callM_succ] at after
  split at after
  case isFalse => exact after.elim
  rename_i count
  rw [one, ret_eval] at after
  have dvLen : (dvOf a.params).length = (parNm a.params).length := by rw [zero, List.length_replicate]; rfl
  have few : ((dvOf a.params).map some ++ (vs.map some ++ List.replicate (lam.N.length - (dvOf a.params).length - (vs.map some).length) none) : L2.St).length = lam.N.length := by
    have front := congrArg List.length S.pre
    have many := cells.len
    simp only [List.length_take, List.length_append, List.length_map, List.length_replicate] at front many ⊢
    omega
  have room0 : (List.replicate (parLen a) (IV.int 0) ++ xs).length ≤ lam.N.length := by
    have back := rep.length
    simp only [List.length_append, List.length_map, List.length_replicate] at few ⊢
    have : parLen a = (dvOf a.params).length := dvLen.symm
    omega
  refine PySem.W.kla_callFunE room.depth call.obj rfl S.co S.gen rfl call.code (call.bind _ _ _ _ (wpAny_newFunctionEnv S.nocell (fun y hy => S.par _ (List.of_mem_zip hy).1) (fun h1 space only => ?_) S.kind))
  have older : ∀ b o, s.heap.get? b = some o → h1.get? b = some o := fun b o found => only.extBut b o (Nat.ne_of_lt (Heap.lt_size found)) (Heap.get?_push_of_some _ found)
  refine ⟨(e0.mod.nolimit.keeps fun b o found => (e0.bs b o found).1).fresh _ only, PySem.W.kla_codeExpr ?_⟩
  have J := inv_startN (CX := L2.CX P w) (F := ⟨"<lambda>", Lq, a.params, [], a.scope, Lcl, c'⟩) (f := f) (E := E) (tk := s.toks + ((parNm a.params).zip us).length) S room.hd e0 dvLen call.vals cells space older
  have good : Good γ (ncx (L2.CX P w) P w K mg base lam.N ⟨"<lambda>", Lq, a.params, [], a.scope, Lcl, c'⟩ f A outer s H E) (scL lam.N a.scope) (fun cls d _ H => E cls d H) := {
    hK := hK.symm
    calm := fun _ => rfl
    hu := by have := deeper.un; show (A.deeper _).units + 100 < cLine; omega
    dp := by have := deeper.dp; show (A.deeper _).depth + 2 < recursionLimit; omega
    hN := rfl
    nd := S.nd
    nm := rfl
    kd := S.kind
    st := fun x isL => by
      unfold locB scL at isL
      dsimp only at isL
      split at isL
      · exact ⟨.inl ‹_›, .inr ‹_›⟩
      · exact absurd rfl (S.nocell _ (PySem.mem_of_lookup ‹_›))
      · cases isL
    tk := takes_of rfl rfl rfl rfl
    free := free }
  have body := (sndE e a.body good (Hnd.none (γ := γ) (G := callM fu n) (me := lam) (hx := hx0) rfl rfl rfl) (fun _ _ _ => trivial) chk (cal _ deeper)).1
  have start : REnv γ hx0 ρ H (startE lam (List.replicate (parLen a) (.int 0) ++ xs)) (startF lam.N (dvOf a.params) (vs.map some)) := by
    refine start_env (vs := dvOf a.params ++ vs) few room0 (fun j v at_ => ?_) (by rw [zero]; exact (zeros_rep _).app rep) (fun _ q => by cases q)
    have lt := (List.getElem?_eq_some_iff.mp at_).1
    show ((dvOf a.params).map some ++ (vs.map some ++ _) : L2.St)[j]? = _
    rw [← List.append_assoc, ← List.map_append, List.getElem?_append_left (by simpa using lt), List.getElem?_map, at_]
    rfl
  exact wpAny_mono (body.run [] _ _ H Q J ⟨ρ, _, st, trivial, R, start, after⟩) (fun u s' ⟨v, H', I', r', q'⟩ => ⟨v, H', I'.os, I'.bare, I'.base, I'.hok, r', q'⟩) fun _ _ z => z
/-- a call's end within an expression -/
theorem call_done {X : Cx} {W : WX} {pins : List (Addr × Obj)} {σ : L2.St} {H : Hp} {s : Shared} {Q : VK} {fv : Value} {us : List Value} (tk : Takes X W) (I : Inv X pins σ H s)
    (ran : codeAny (model X.prog X.w) X.A (.call fv ⟨us, []⟩) (CR (L2.CX X.prog X.w) X.stack X.prog X.w H s Q (fun cls d H' => W cls d σ H')) s) : wpAny (model X.prog X.w) X.A (call fv us) (EP X pins σ Q) X.xe s := by
  apply wpAny_call
  refine codeAny_mono ran ?_
  rintro (e | fl) s' out
  · exact passAt tk σ _ _ _ _ _ I out
  · cases fl <;> first
      | exact I.after out
      | exact (show False from out).elim
/-! ### the closure at hand is called -/
theorem caps_rep {γ : Gm} {hx : HX} {ρ : List Addr} {H : Hp} {env : Env} {σ : L2.St} (Re : REnv γ hx ρ H env σ) : ∀ {js : List Nat} {xs : List IV}, capsOf env js = some xs → ∃ vs : List V, js.map (NdefX.slotAt σ) = vs.map some ∧ RepVs γ ρ H xs vs
  | [], xs, h => by
    simp only [capsOf, Option.some.injEq] at h
    subst h
    exact ⟨[], rfl, rfl⟩
  | j :: js, xs, h => by
    simp only [capsOf] at h
    split at h
    · rename_i x hx'
      obtain ⟨ys, hy, rfl⟩ := Option.map_eq_some_iff.mp h
      obtain ⟨vs, h1, h2⟩ := caps_rep Re hy
      obtain ⟨v, h3, h4⟩ := Re.sl j x hx'
      refine ⟨v :: vs, ?_, ?_⟩
      · simp only [List.map_cons, h1]
        rw [NdefX.slotAt_of h3]
      · simp only [RepVs]
        exact ⟨v, vs, rfl, h4, h2⟩
    · cases h
/-- what the frame of a def that calls its closure stands for -/
def hxW (cs : List V) (L : LT) (f : Addr) : HX := { p := fun _ σ => (∀ (j : Nat) (v : V), cs[j]? = some v → σ[j]? = some (some v)) ∧ σ[cs.length]? = some (some (.ref f)), at_ := some (L, f) }
/-- the slots from the first on are what cs says -/
theorem caps_are {cs : List V} {σ : L2.St} (h : ∀ (j : Nat) (v : V), cs[j]? = some v → σ[j]? = some (some v)) : (List.range cs.length).map (NdefX.slotAt σ) = cs.map some := by
  apply List.ext_getElem (by simp)
  intro j lt1 lt2
  simp only [List.getElem_map, List.getElem_range]
  exact NdefX.slotAt_of (h j _ (List.getElem?_eq_getElem (by simpa using lt2)))
theorem s_act {γ : Gm} {X : Cx} {W : WX} {fu n : Nat} {wd lam : FnDef} {a : LamA} {cs : List V} {L : LT} {f : Addr} {work : Str} {p pos : Pos} {k0 : Nat} (LS : LamSnd γ X.prog X.w X.K X.mg X.base fu n lam a) (hws : wd.ws = [(k0, lam, List.range cs.length)]) (npl : lam.np = parLen a + cs.length)
    (isL : LIs L a) (C : CellsAt L.cl (lam.N.drop (parLen a)) (cs.map some) X.s_0.heap X.H_0) (apart : ∀ y c, L.cl.lookup y = some c → c ∉ X.fs) (noEx : X.ex = []) (room : Room n X.A) (tk : Takes X W) (hN : X.N[cs.length]? = some work) (hv : Vis X.env.scope work) (hd : (work == ("__debug__" : Str)) = false) (hcd : (work == ("__classdict__" : Str)) = false) :
    PE X (.Call (.Name work p) [] [] pos) (tI γ W (hxW cs L f) (evE (callM fu n) wd .act)) := by
  refine ⟨fun pn s0 σ Ha Q I0 reading => ?_⟩
  obtain ⟨ρ, env, st, ⟨front, slot⟩, R, Re, after⟩ := reading
  simp only [evE, actM, hws] at after
  split at after
  case h_2 => exact after.elim
  rename_i xs caps
  obtain ⟨vs, same, rep⟩ := caps_rep Re caps
  have eq : vs = cs := by
    have both := same.symm.trans (caps_are front)
    exact (List.map_inj_right fun _ _ z => Option.some.inj z).mp both
  subst eq
  have pad : lam.np - xs.length = parLen a := by have := rep.length; omega
  rw [pad] at after
  have clean := gc_ok (t := []) (.refl ρ Ha) R (by simp) after
  rw [List.append_nil] at clean
  have at_ : LamAt Ha L f := Re.la _ rfl
  have name : PE X (.Name work p) (tVar vs.length) := pe_var hN hv hd hcd
  apply wpAny_Call_Name_kw
  refine wpAny_mono (name.run pn s0 σ Ha (fun v Hb => v = .ref f ∧ Hb = Ha) I0 ⟨.ref f, slot, rfl, rfl⟩) ?_ fun _ _ z => z
  rintro u s1 ⟨_, _, J, rel, rfl, rfl⟩
  cases rel
  obtain ⟨_, _, obj, _⟩ := id at_
  obtain ⟨⟨_, _, _, there⟩, _, _⟩ := J.hok f _ obj
  exact PySem.W.callWith_F0 (first := []) ⟨_, _, _, _, there⟩ (call_done tk J (LS X.A X.stack s1 _ ρ st xs vs L f Q _ room J.env0 isL at_ (C.later apart (fun _ _ _ => by simp [noEx]) J) R rep clean))
/-! ### a def that calls what it gets -/
/-- the def at g, run at level n as wd with the lambda a -/
def WSnd (γ : Gm) (P : Program) (w : World) (K : PySem.W.Frag) (mg : Str → Option Value) (base : Heap) (fu n : Nat) (wd : FnDef) (lamN : List Str) (a : LamA) (g : Addr) : Prop :=
  ∀ (A : Around) (outer : List PySem.Env) (s : Shared) (H : Hp) (ρ : List Addr) (st : Store) (xs : List IV) (vs : List V) (L : LT) (f : Addr) (Q : VK) (E : XK), Room n A → Env0 P w K mg base A outer s H → LIs L a → LamAt H L f → CellsAt L.cl lamN (vs.map some) s.heap H →
    (∀ y c, L.cl.lookup y = some c → c ∉ frs outer) → Rep γ ρ st H → RepVs γ ρ H xs vs → Aft γ ρ H (callM fu n wd xs st) Q E → codeAny (model P w) A (.call (.ref g) ⟨[.ref f], []⟩) (CR (L2.CX P w) outer P w H s Q E) s
section
variable {P : Program} {w : World} {K : PySem.W.Frag} {mg : Str → Option Value} {base : Heap} {N fk : List Str} {qual : Str} {scope : Scope} {f : Addr} {cd : Value} {A : Around} {outer : List PySem.Env} {s s1 : Shared} {H H' : Hp} {E : XK} {cs : List (Option V)} {σ : L2.St} {pins : List (Addr × Obj)}
/-- slots of no name of the text are added in front .. -/
theorem inv_fake (I : Inv (cxOf (L2.CX P w) P w K mg base N qual scope f cd A outer s H E) pins σ H' s1) (unseen : ∀ y ∈ fk, ¬ Vis scope y) (hl : cs.length = fk.length) : Inv (cxOf (L2.CX P w) P w K mg base (fk ++ N) qual scope f cd A outer s H E) pins (cs ++ σ) H' s1 := by
  refine { I with ok := { I.ok with }, loc := ?_, len := by have := I.len; simpa [hl, cxOf] using this }
  obtain ⟨m, space, told⟩ := I.loc
  refine ⟨m, space, fun i x v isName isVal seen => ?_⟩
  rcases Nat.lt_or_ge i fk.length with lo | hi
  · exact absurd seen (unseen x (List.mem_of_getElem? ((List.getElem?_append_left lo).symm.trans isName)))
  · exact told (i - fk.length) x v ((List.getElem?_append_right hi).symm.trans isName) (by rw [← hl] at hi ⊢; exact (List.getElem?_append_right hi).symm.trans isVal) seen
/-- .. and taken away -/
theorem inv_real (I : Inv (cxOf (L2.CX P w) P w K mg base (fk ++ N) qual scope f cd A outer s H E) pins σ H' s1) : Inv (cxOf (L2.CX P w) P w K mg base N qual scope f cd A outer s H E) pins (σ.drop fk.length) H' s1 := by
  refine { I with ok := { I.ok with }, loc := ?_, len := by have := I.len; simp [cxOf] at this ⊢; omega }
  obtain ⟨m, space, told⟩ := I.loc
  exact ⟨m, space, fun i x v isName isVal seen => told (fk.length + i) x v (by show (fk ++ N)[_]? = _; rw [List.getElem?_append_right (by omega), Nat.add_sub_cancel_left]; exact isName) (by rw [← List.getElem?_drop]; exact isVal) seen⟩
def liftD (m : Nat) (D : Ends) : Ends := { nx := fun σ => D.nx (σ.drop m), rt := D.rt, bk := fun σ => D.bk (σ.drop m), ct := fun σ => D.ct (σ.drop m) }
theorem pss_real {body : List Stmt} {t : TS} (unseen : ∀ y ∈ fk, ¬ Vis scope y) (hl : cs.length = fk.length) (h : PSs (cxOf (L2.CX P w) P w K mg base (fk ++ N) qual scope f cd A outer s H E) body t) :
    PSs (cxOf (L2.CX P w) P w K mg base N qual scope f cd A outer s H E) body (fun D σ H => t (liftD fk.length D) (cs ++ σ) H) := by
  refine ⟨fun pn s0 σ0 Ha D I0 q => wpAny_mono (h.run pn s0 _ Ha _ (inv_fake I0 unseen hl) q) ?_ fun _ _ z => z⟩
  rintro (_ | _ | _ | u) s' out
  all_goals first
    | (obtain ⟨σ', Hb, J, z⟩ := out; exact ⟨_, Hb, inv_real J, z⟩)
    | (obtain ⟨v, σ', Hb, J, rel, z⟩ := out; exact ⟨v, _, Hb, inv_real J, rel, z⟩)
end
def scW (N : List Str) (scope : Scope) (work : Str) (isN : List (Str × Nat)) (isF : List (Nat × Str)) : Sc := { N := N, scope := scope, raw := scope, calm := false, actN := some work, isN := isN, isF := isF }
/-- isinstance of a caught exception, with a dict or without -/
theorem call_isX {X : Cx} {a D : Addr} {d : Option Addr} {oe : Obj} {pn : List (Addr × Obj)} (C : L2.ExcC X.K D) (hz : Zc (.ref D) d oe) (hf : ∃ vs, oe.data = .fields vs) :
    L2.CallR (X.suite a ((a, oe) :: pn)) (.builtin "isinstance") (fun xs H Q => (∀ dd, d = some dd → ∃ fs, H dd = some (.xd fs)) ∧ L2.rIsE X.K D a xs H Q) := by
  intro pins s σ H xs us Q I r h
  obtain ⟨hd, c, cv, b, rfl, hcv, e, q⟩ := h
  rcases r with _ | ⟨rx, _ | ⟨rt, _ | _⟩⟩
  cases rx
  obtain rfl := hcv _ rt
  have there := (I.pin (a, oe) (List.mem_append_left _ List.mem_cons_self)).1
  have notC : PySem.W.notCls oe = true := by
    obtain ⟨vs, hv⟩ := hf
    unfold PySem.W.notCls
    rw [hv]
  have J : ∃ od, PySem.W.InstAt s.heap a oe D od := by
    cases d with
    | none => exact ⟨none, there, hz.1, notC, by rw [hz.2]; trivial⟩
    | some dd =>
      obtain ⟨fs, hfs⟩ := hd dd rfl
      have ok : ObjOk X.prog X.w H s.heap dd (.xd fs) := I.hok dd _ hfs
      obtain ⟨m, ns, -⟩ := ok
      obtain ⟨od, ho, -⟩ := lookIn_ns ns
      exact ⟨some od, there, hz.1, notC, by rw [hz.2]; exact ho⟩
  obtain ⟨od, J⟩ := J
  have isC : (PySem.W.clsIn X.K D).isSome = true := by
    obtain ⟨cd, hc, -⟩ := PySem.W.any_some C.hd
    rw [hc]
    rfl
  exact PySem.W.kia_one (PySem.W.kitx_exc (od := od) isC C.hg C.hk C.hs C.ha C.hn C.ht C.hm) I.kIn J e (fun z => nomatch z) fun tk => ⟨.bl b, H, I.kept (t' := tk) fun _ _ z => z, rfl, q⟩
/-- the exception classes; what isinstance tells of them -/
structure ClsOk (γ : Gm) (K : PySem.W.Frag) (mg : Str → Option Value) (isN : List (Str × Nat)) (isF : List (Nat × Str)) : Prop where
  nod : ∀ k C f, γ.xt k = some (C, f) → L2.ExcC K C
  fld : ∀ k f, (k, f) ∈ isF → ∀ C g, γ.xt k = some (C, some g) → g = f ∧ PySem.W.findIn K (.ref C) f = some none
  is : ∀ nm c, isN.lookup nm = some c → ∃ Cc : Addr, mg nm = some (.ref Cc) ∧ ∀ k C f, γ.xt k = some (C, f) → PySem.W.kitOne K (.ref C) (.ref Cc) = some (decide (k = c))
theorem s_suite {γ : Gm} {X : Cx} {sc : Sc} {W : WX} {G : Orc} {me : FnDef} {a : Addr} {oe : Obj} {cls : Value} {d : Option Addr} {pn : List (Addr × Obj)} {slot : Nat} {n : Str} (g : Good γ X sc W) (ck : ClsOk γ X.K X.mg sc.isN sc.isF) (hz : Zc cls d oe) (hf : ∃ vs, oe.data = .fields vs) (hi : sc.N[slot]? = some n) (hl : sc.scope.names.lookup n = some .local) :
    Hnd γ (X.suite a ((a, oe) :: pn)) (sc.suite (some n)) G me (hxS slot a cls d) noW := by
  refine ⟨fun e ex q1 q2 => ?_, fun i e x y r p p1 p2 pos q => ?_⟩
  · cases e <;> simp [isHn] at q1
    · rename_i c nm
      cases ex <;> first | (simp [chkE, hIsB] at q2; done) | skip
      rename_i fn as ks pos
      cases fn <;> first | (simp [chkE, hIsB] at q2; done) | skip
      rename_i ii p
      rcases as with _ | ⟨l, _ | ⟨r, _ | ⟨r3, as⟩⟩⟩ <;> first | (simp [chkE, hIsB] at q2; done) | skip
      cases l <;> first | (simp [chkE, hIsB] at q2; done) | skip
      cases r <;> first | (simp [chkE, hIsB] at q2; done) | skip
      rename_i x px y py
      cases ks with
      | cons _ _ => simp [chkE, hIsB] at q2
      | nil =>
        simp only [chkE, hIsB, Bool.and_eq_true, decide_eq_true_eq, Bool.not_eq_true'] at q2
        obtain ⟨⟨⟨⟨⟨⟨⟨h1, h2⟩, h3⟩, h4⟩, h5⟩, h6⟩, h7⟩, h8⟩ := q2
        have hx' : n = x := Option.some.inj h2
        subst hx' h1
        obtain ⟨Cc, m1, m2⟩ := ck.is y c h6
        have gS : Good γ (X.suite a ((a, oe) :: pn)) (sc.suite (some n)) noW := g.suite
        obtain ⟨k1, k2, k3⟩ := gS.gl h4
        obtain ⟨l1, l2, l3⟩ := gS.gl h5
        have hm := g.free "isinstance" (by decide +kernel)
        have hv : bootBuiltins ("isinstance" : Str) = some (.builtin "isinstance") := by decide +kernel
        have vis : Vis (X.suite a ((a, oe) :: pn)).env.scope n := .inl (by show X.env.scope.names.lookup n = _; rw [g.nm]; exact hl)
        have pA : PE (X.suite a ((a, oe) :: pn)) (.Name n px) _ := pe_var (i := slot) (by show X.N[slot]? = _; rw [g.hN]; exact hi) vis h7 h8
        have pB : PE (X.suite a ((a, oe) :: pn)) (.Name y py) (tC (.ref Cc)) := pe_glob l1 m1 (show RelV (.ref Cc) (.ref Cc) from rfl) l2
        refine ⟨fun pins s σ H Q I h => ?_⟩
        obtain ⟨ρ, env, st, hh, R, Re, A⟩ := h
        simp only [evE] at A
        split at A
        · rename_i e he
          obtain ⟨pp, w1, C, f, x1, x2, x3⟩ := Re.hv e he
          cases w1
          have hE := ck.nod _ _ _ x1
          simp only at x2 x3
          subst x2
          refine (pe_callB (call_isX (X := X) (a := a) (pn := pn) hE hz hf) k1 hm hv (pa_cons pA (pa_cons pB pa_nil rfl) rfl) k3 k2 rfl rfl).run pins s σ H Q I ?_
          refine ⟨.ref a, hh, fun dd hdd => ?_, .ref Cc, .ref Cc, decide (e.cls = c), rfl, fun u hu => hu, m2 _ _ _ x1, A.val R rfl⟩
          subst hdd
          split at x3
          · cases x3
          · obtain ⟨d', v, z, h2, -⟩ := x3
            cases z
            exact ⟨_, h2⟩
          · exact x3.elim
        · exact A.elim
    · rename_i cn f
      cases ex <;> first | (simp [chkE, hFldB] at q2; done) | skip
      rename_i o f' pos
      cases o <;> first | (simp [chkE, hFldB] at q2; done) | skip
      rename_i x px
      simp only [chkE, hFldB, Bool.and_eq_true, decide_eq_true_eq, Bool.not_eq_true'] at q2
      obtain ⟨⟨⟨⟨h1, rfl⟩, h3⟩, h7⟩, h8⟩ := q2
      have hx' : n = x := Option.some.inj h1
      subst hx'
      have vis : Vis (X.suite a ((a, oe) :: pn)).env.scope n := .inl (by show X.env.scope.names.lookup n = _; rw [g.nm]; exact hl)
      have pA : PE (X.suite a ((a, oe) :: pn)) (.Name n px) _ := pe_var (i := slot) (by show X.N[slot]? = _; rw [g.hN]; exact hi) vis h7 h8
      refine ⟨fun pins s σ H Q I h => ?_⟩
      obtain ⟨ρ, env, st, hh, R, Re, A⟩ := h
      simp only [evE] at A
      split at A
      · rename_i e he
        obtain ⟨pp, w1, C, fo, x1, x2, x3⟩ := Re.hv e he
        cases w1
        have hE := ck.nod _ _ _ x1
        simp only at x2 x3
        subst x2
        split at A
        · rename_i hc
          split at A
          · rename_i y hy
            rw [hy] at x3
            cases fo with
            | none => exact x3.elim
            | some fl =>
              obtain ⟨dd, v, rfl, hdd, rv⟩ := x3
              obtain ⟨rfl, hno⟩ := ck.fld cn f' h3 C fl (by rw [← hc]; exact x1)
              refine (L2.pe_xf (X := X) (a := a) (C := C) (pn := pn) (n := fl) ⟨hE.hg, hE.hk, hE.hs, hE.hd⟩ hno hz hf pA rfl).run pins s σ H Q I ?_
              refine ⟨.ref a, hh, rfl, rfl, dd, [(fl, v)], v, rfl, hdd, by simp, A.val R rv⟩
          · exact A.elim
        · exact A.elim
      · exact A.elim
    · (simp only [chkE] at q2; first | unfold hIsB at q2 | unfold hFldB at q2 | unfold actB at q2 | unfold wlitB at q2) <;> split at q2 <;> simp_all [Sc.suite]
    · (simp only [chkE] at q2; first | unfold hIsB at q2 | unfold hFldB at q2 | unfold actB at q2 | unfold wlitB at q2) <;> split at q2 <;> simp_all [Sc.suite]
  · simp only [chkE, Sc.suite, List.isEmpty_nil, Bool.not_true, Bool.false_and, Bool.false_eq_true] at q
end MP

set_option linter.all false
set_option autoImplicit false
set_option Elab.async false
set_option maxRecDepth 100000
set_option maxHeartbeats 1000000
namespace MP
open PySem L2 PySem.Spec PyProof.Rows LamX NdefX

section
variable {γ : Gm} {P : Program} {w : World} {K : PySem.W.Frag} {mg : Str → Option Value} {base : Heap} {fu n : Nat}
/-- an except suite without a name speaks of nothing -/
theorem hnd_o {X : Cx} {W' : WX} {sc : Sc} {hx : HX} {G : Orc} {me : FnDef} : Hnd γ X (sc.suite none) G me hx W' := Hnd.none rfl rfl rfl
theorem good_cx {N : List Str} {qual : Str} {scope : Scope} {f : Addr} {cd : Value} {A : Around} {outer : List PySem.Env} {s : Shared} {H : Hp} {E : XK} (sc : Sc) (hK : γ.K = K) (free : ∀ x ∈ bNames, mg x = none) (nd : N.Nodup) (hk : scope.kind = .function) (nofree : ∀ y ∈ scope.names, y.2 ≠ .free)
    (hr : Room n (A.deeper (envOfC qual scope s.heap.objs.size f cd))) (h1 : sc.N = N) (h2 : sc.scope = scope) (h3 : sc.raw = scope) : Good γ (cxOf (L2.CX P w) P w K mg base N qual scope f cd A outer s H E) sc (fun cls d _ H => E cls d H) :=
  ⟨hK.symm, fun _ => rfl, (by have z := hr.un; show (A.deeper _).units + 100 < cLine; omega), (by have z := hr.dp; show (A.deeper _).depth + 2 < recursionLimit; omega), h1.symm, nd, h2.symm, h2 ▸ hk, fun x hx => by
    unfold locB at hx
    rw [h3] at hx
    split at hx
    · rename_i q; exact ⟨.inl q, .inl rfl⟩
    · rename_i q; exact ⟨.inr q, .inl rfl⟩
    · (cases hx), takes_of rfl rfl rfl rfl, free⟩
/-- the nodes of the frame of a def that calls its closure -/
theorem hnd_w {X : Cx} {W' : WX} {N : List Str} {scope : Scope} {work : Str} {isN : List (Str × Nat)} {isF : List (Nat × Str)} {hx : HX} {G : Orc} {wd : FnDef} (act : ∀ p pos, PE X (.Call (.Name work p) [] [] pos) (tI γ W' hx (evE G wd .act))) : Hnd γ X (scW N scope work isN isF) G wd hx W' := by
  constructor
  · intro e ex kind chk
    cases e <;> simp only [isHn, Bool.false_eq_true] at kind
    case act =>
      simp only [chkE] at chk
      unfold actB at chk
      split at chk <;> first
        | (simp only [Bool.false_eq_true] at chk; done)
        | skip
      all_goals try (simp_all; done)
      rename_i x p pos
      have nm : work = x := by simpa [scW] using chk
      subst nm
      exact act _ _
    all_goals ((simp only [chkE] at chk; first | unfold hIsB at chk | unfold hFldB at chk | unfold wlitB at chk) <;> split at chk <;> simp_all [scW])
  · intro i e x y r p p1 p2 pos chk
    simp [chkE, scW] at chk
theorem w_run {wd lam : FnDef} {a : LamA} {work qual : Str} {stw : Stmt} {g : Addr} {fdat : FuncData} {fk Nw : List Str} {k0 : Nat} {isN : List (Str × Nat)} {isF : List (Nat × Str)} (hK : γ.K = K) (free : ∀ x ∈ bNames, mg x = none) (F : L2.Fun K qual qual stw g fdat) (hb : L2.Binds K fdat [work] []) (hN : wd.N = fk ++ Nw) (S : FnScope Nw [work] (defScope stw))
    (hfk : fk.length = wd.np) (nd : (fk ++ Nw).Nodup) (unseen : ∀ y ∈ fk, ¬ Vis (defScope stw) y) (hv : Vis (defScope stw) work) (hd : (work == ("__debug__" : Str)) = false) (hcd : (work == ("__classdict__" : Str)) = false) (hws : wd.ws = [(k0, lam, List.range wd.np)]) (npl : lam.np = parLen a + wd.np)
    (chk : chkSs (scW wd.N (defScope stw) work isN isF) wd wd.body (defBody stw) = true) (ck : ClsOk γ K mg isN isF) (cal : ∀ P', calSs P' (GcOk γ mg) (RaiseAny γ P w K mg base) (CatchOk γ K mg) wd wd.body) (LS : LamSnd γ P w K mg base fu n lam a) : WSnd γ P w K mg base fu (n + 1) wd (lam.N.drop (parLen a)) a g := by
  intro A outer s H ρ st xs vs L f Q E room e0 isL at_ cells apart R rep after
  rw [callM_succ] at after
  split at after
  case isFalse => exact after.elim
  rename_i count
  have many : vs.length = wd.np := rep.length.trans count
  obtain ⟨oc, od, kV, doc, pm, an, cdv, ct, osl, rfl, lk, code⟩ := F.ex
  have inK : K.In s.heap := e0.mod.kin.keeps fun b o found => (e0.bs b o found).1
  have bind := hb s [.ref f] inK rfl
  have first : Nw[0]? = some work := by
    have front := S.pre
    rcases Nw with _ | ⟨x, rest⟩
    · cases front
    · cases front; rfl
  refine LamX.run_ofS (N := Nw) (ps := [work]) (us := [.ref f]) (vs := [.ref f]) lk code S room e0 (by simpa using bind) (.cons rfl .nil) rfl fun room' => ?_
  have good := good_cx (γ := γ) (P := P) (w := w) (K := K) (mg := mg) (base := base) (outer := outer) (H := H) (E := E) (scW wd.N (defScope stw) work isN isF) hK free nd S.kind S.nofree room' hN rfl rfl
  have slot : (fk ++ Nw)[vs.length]? = some work := by rw [many, ← hfk, List.getElem?_append_right (Nat.le_refl _), Nat.sub_self]; exact first
  have nodes : ∀ (pn : List (Addr × Obj)) (xe : Value → Shared → Prop) (W' : WX), Takes ((cxOf (L2.CX P w) P w K mg base (fk ++ Nw) qual (defScope stw) g cdv A outer s H E).tr pn xe) W' →
      Hnd γ ((cxOf (L2.CX P w) P w K mg base (fk ++ Nw) qual (defScope stw) g cdv A outer s H E).tr pn xe) (scW wd.N (defScope stw) work isN isF) (callM fu n) wd (hxW vs L f) W' :=
    fun pn xe W' tk => hnd_w fun p pos => s_act (k0 := k0) LS (by rw [hws, many]) (by rw [npl, many]) isL cells apart rfl room' tk slot hv hd hcd
  have frame : FrameOk γ (cxOf (L2.CX P w) P w K mg base (fk ++ Nw) qual (defScope stw) g cdv A outer s H E) (scW wd.N (defScope stw) work isN isF) (hxW vs L f) (callM fu n) wd := {
    st := rfl
    fr := rfl
    hn := nodes
    su := fun _ _ _ _ _ _ _ z1 z2 z3 z4 => s_suite good ck z1 z2 z3 z4
    so := fun _ _ _ _ _ _ _ => hnd_o }
  have walked := sndSs (fu := fu) wd.body (defBody stw) good (passes_of rfl) (nodes [] _ _ good.tk) (nodes [] _ _ L2.takes0) (fun z => by cases z) (fun _ => frame) (LamsOk.none rfl) chk (cal _)
  have caps : ∀ (j : Nat) (v : V), vs[j]? = some v → (vs.map some ++ L2.start Nw [V.ref f] : L2.St)[j]? = some (some v) := fun j v q => by
    rw [List.getElem?_append_left (by simpa using (List.getElem?_eq_some_iff.mp q).1), List.getElem?_map, q]; rfl
  have long : 0 < Nw.length := (List.getElem?_eq_some_iff.mp first).1
  refine ⟨_, pss_real (cs := vs.map some) unseen (by simp [many, hfk]) walked, ρ, startE wd xs, st, ⟨caps, ?_⟩, R, start_env ?_ ?_ caps rep (fun p q => by cases q; exact at_), exit_aft after⟩
  · rw [List.getElem?_append_right (by simp)]
    simp [L2.start]
  · simp [hN, L2.start, many, hfk]; omega
  · rw [count, hN, List.length_append, hfk]; omega
end
/-! ### the frame that makes lambdas -/
theorem look_mem {β : Type} {k : Nat} {v : β} : ∀ {l : List (Nat × β)}, l.lookup k = some v → (k, v) ∈ l
  | [], h => by cases h
  | (j, w) :: l, h => by
    rw [List.lookup_cons] at h
    split at h
    · rename_i q
      rw [beq_iff_eq] at q
      cases h
      rw [q]
      exact List.mem_cons_self
    · exact List.mem_cons_of_mem _ (look_mem h)

/-- the lambda a as the frame X makes it -/
def mkL (X : Cx) (a : LamA) : LT := ⟨a.params, a.body, a.scope, X.env.qual ++ "<lambda>", cloFrom X.env.cells a.scope.names [], dvOf a.params⟩
theorem mkL_is (X : Cx) (a : LamA) : LIs (mkL X a) a := ⟨rfl, rfl, rfl, rfl⟩
/-- the table of the frame's code object, and what its lambdas capture -/
structure MkTab (γ : Gm) (X : Cx) (sc : Sc) : Prop where
  tab : ∃ c Pt nm, TabB X.base X.mg c Pt ∧ X.env.code = .ref c ∧ (Pt, nm) ∈ γ.T ∧ (∀ p ∈ γ.T, p.1 = Pt → p.2 = nm) ∧ ∀ l k, nm l k = X.env.qual ++ "<lambda>"
  lam : ∀ k a, sc.lamA.lookup k = some a → parB a.scope a.params = true ∧ ∀ y ∈ a.scope.names, y.2 = .free → sc.scope.names.lookup y.1 = some .cell ∨ sc.scope.names.lookup y.1 = some .free
/-- the defs to be run for the lambdas -/
structure MkW (γ : Gm) (X : Cx) (sc : Sc) (fu n : Nat) (me : FnDef) : Prop where
  w : ∀ k wd js, me.ws.lookup k = some (wd, js) → ∃ a lamN g, sc.lamA.lookup k = some a ∧ (∀ y ∈ lamN, (y, NameKind.free) ∈ a.scope.names) ∧ js.map (fun j => sc.N[j]?) = lamN.map some ∧ X.mg wd.nm = some (.ref g) ∧ PySem.W.keepIn X.K (.ref g) = true ∧
    WSnd γ X.prog X.w X.K X.mg X.base fu n wd lamN a g
def hxM (X : Cx) (sc : Sc) : HX := { p := fun _ _ => True, lam := fun k => (sc.lamA.lookup k).map (mkL X) }
theorem rep_extN {γ : Gm} {ρ : List Addr} {st : Store} {H H1 : Hp} (R : Rep γ ρ st H) (e : ExtN H H1) (nn : ∀ b, H1 b = none → H b = none) (T : TabsN γ.T H1) : Rep γ ρ st H1 ∧ Ext ρ H ρ H1 := by
  have eL : Ext ρ H ρ H1 := ⟨⟨[], by simp⟩, fun b o h _ n => e b o h n, fun b hb => .inl hb, nn⟩
  refine ⟨⟨R.len, R.nd, fun i o q => ?_, T⟩, eL⟩
  obtain ⟨a, h1, h2⟩ := R.ob i o q
  refine ⟨a, h1, RepO.mono R eL ?_ h2⟩
  rcases R.mem (List.mem_of_getElem? h1) with ⟨vs, z⟩ | ⟨C, dx, gs, z⟩ | ⟨ks, z⟩ | ⟨ks, z⟩
  · rw [e a _ z (fun ps q => by cases q), z]
  · rw [e a _ z (fun ps q => by cases q), z]
  · rw [e a _ z (fun ps q => by cases q), z]
  · rw [e a _ z (fun ps q => by cases q), z]
section
variable {γ : Gm} {X : Cx} {sc : Sc} {W : WX} {me : FnDef} {fu n : Nat}
/-- the closure at f goes to the def that is run for it -/
theorem wcall {pins : List (Addr × Obj)} {σ : L2.St} {H : Hp} {s : Shared} {ρ : List Addr} {env : Env} {st : Store} {k : Nat} {Q : VK} {f : Addr} {a : LamA} (g : Good γ X sc W) (mw : MkW γ X sc fu n me) (hr : Room n X.A) (hst : X.stack = X.env :: X.outer) (hfr : X.env.frame = some X.env.locals) (hfn : ∀ y, X.fn y = true)
    (I : Inv X pins σ H s) (R : Rep γ ρ st H) (Re : REnv γ (hxM X sc) ρ H env σ) (ha : sc.lamA.lookup k = some a) (mt : ∀ y ∈ a.scope.names, y.2 = .free → sc.scope.names.lookup y.1 = some .cell ∨ sc.scope.names.lookup y.1 = some .free) (LA : LamAt H (mkL X a) f) (A : Aft γ ρ H (wrun (callM fu n) me k env st) Q (fun cls d H' => W cls d σ H')) :
    ∃ wd js g, me.ws.lookup k = some (wd, js) ∧ X.mg wd.nm = some (.ref g) ∧ PySem.W.keepIn X.K (.ref g) = true ∧ wpAny (model X.prog X.w) X.A (call (.ref g) [.ref f]) (EP X pins σ Q) X.xe s := by
  unfold wrun at A
  split at A
  · rename_i wd js hw
    obtain ⟨a', lamN, g0, h1, h2, h3, h4, h5, h6⟩ := mw.w k wd js hw
    rw [ha] at h1
    cases h1
    refine ⟨wd, js, g0, hw, h4, h5, ?_⟩
    split at A
    · rename_i xs hxs
      obtain ⟨vs, v1, v2⟩ := caps_rep Re hxs
      have hfree : ∀ y ∈ a.scope.names, y.2 = .free → X.env.scope.names.lookup y.1 = some .cell ∨ X.env.scope.names.lookup y.1 = some .free := fun y hy e => by rw [g.nm]; exact mt y hy e
      have hjs : js.map (fun j => X.N[j]?) = lamN.map some := by rw [g.hN]; exact h3
      have cp : Caps X (cloFrom X.env.cells a.scope.names []) lamN js := Caps.made I.ok hfree h2 hjs
      have C := cells_of I cp
      rw [v1] at C
      have nfr : ∀ y c, (mkL X a).cl.lookup y = some c → c ∉ frs X.stack := fun y c e z => by
        have e' := cp.sub y c e
        rw [hst] at z
        unfold frs at z
        rw [List.filterMap_cons, hfr] at z
        rcases List.mem_cons.mp z with q | q
        · have := I.cne y c e'
          exact this q
        · have c1 := I.ok.cab y c (hfn y) e'
          obtain ⟨_, o, ho, _⟩ := I.ok.funs.mem q
          exact absurd (Heap.lt_size ho) (Nat.not_lt_of_le c1)
      have A1 := gc_ok (t := []) (.refl ρ H) R (by simp) A
      rw [List.append_nil] at A1
      exact call_done g.tk I (h6 X.A X.stack s H ρ st xs vs (mkL X a) f Q _ hr I.env0 (mkL_is X a) LA C nfr R v2 A1)
    · exact A.elim
  · exact A.elim
theorem s_wlit {k : Nat} {x : Str} {l : Expr} {p pos : Pos} (g : Good γ X sc W) (mk : MkTab γ X sc) (mw : MkW γ X sc fu n me) (hr : Room n X.A) (hst : X.stack = X.env :: X.outer) (hfr : X.env.frame = some X.env.locals) (hfn : ∀ y, X.fn y = true)
    (h : chkE sc me (.wlit k) (.Call (.Name x p) [l] [] pos) = true) : PE X (.Call (.Name x p) [l] [] pos) (tI γ W (hxM X sc) (evE (callM fu n) me (.wlit k))) := by
  simp only [chkE, wlitB, Bool.and_eq_true] at h
  obtain ⟨⟨h1, h2⟩, h3⟩ := h
  obtain ⟨g1, g2, g3⟩ := g.gl h1
  cases hw : me.ws.lookup k with
  | none => rw [hw] at h2; cases h2
  | some q =>
    obtain ⟨wd, js⟩ := q
    rw [hw] at h2
    simp only [decide_eq_true_eq] at h2
    cases ha : sc.lamA.lookup k with
    | none => rw [ha] at h3; cases h3
    | some a =>
      rw [ha] at h3
      simp only at h3
      cases l <;> first | (simp [LamA.is] at h3; done) | skip
      rename_i params body scope lpos
      obtain ⟨rfl, rfl, rfl⟩ := LamA.is_eq h3
      obtain ⟨m1, m2⟩ := mk.lam k a ha
      obtain ⟨a', lamN, g0, k1, k2, k3, k4, k5, k6⟩ := mw.w k wd js hw
      obtain ⟨c, Pt, nm, t1, t2, t3, t4, t5⟩ := mk.tab
      refine ⟨fun pins s σ H Q I h0 => ?_⟩
      obtain ⟨ρ, env, st, hh, R, Re, A⟩ := h0
      simp only [evE] at A
      refine wpAny_Call_Name_kw (ld_glob I g1 (by rw [← h2]; exact k4) ?_ g2)
      refine PySem.W.callWith_K (h₀ := X.base) I.ok.mod.kin k5 ?_ (by rfl) (by rfl)
      show wpAny _ _ (spliced ((false, eval (.Lambda a.params a.body a.scope lpos) X.env) :: backTo pos (starEach [] X.env))) _ _ s
      have hfree : ∀ y ∈ a.scope.names, y.2 = .free → ∃ c, X.env.cells.lookup y.1 = some c := fun y hy e => by
        rcases m2 y hy e with z | z
        · exact I.ok.has _ (.inl (by show X.env.scope.names.lookup _ = _; rw [g.nm]; exact z))
        · exact I.ok.has _ (.inr (by show X.env.scope.names.lookup _ = _; rw [g.nm]; exact z))
      refine Calls.spliced_cons (lam_mk I t1 t2 t3 (t5 _ _) t4 R.tb hfree m1 fun f H1 s' I1 kn LA => Calls.spliced_nil ⟨I1.kIn, ?_⟩)
      obtain ⟨R1, eL⟩ := rep_extN R kn.ext kn.all kn.tabs
      obtain ⟨wd', js', g', z1, z2, z3, z4⟩ := wcall g mw hr hst hfr hfn I1 R1 (Re.mono R eL) ha m2 LA (A.ext eL)
      rw [hw] at z1
      cases z1
      rw [k4] at z2
      cases z2
      exact z4
theorem LamsAt.get {lam : Nat → Option LT} {H : Hp} : ∀ {ks : List Nat} {fs : List Addr} {p k : Nat}, LamsAt lam H ks fs → ks[p]? = some k → ∃ f L, fs[p]? = some f ∧ lam k = some L ∧ LamAt H L f
  | [], fs, p, k, _, h => by simp at h
  | j :: ks, fs, 0, k, hl, h => by
    simp only [LamsAt] at hl
    obtain ⟨f, gs, L, rfl, h2, h3, h4⟩ := hl
    simp at h
    subst h
    exact ⟨f, L, rfl, h2, h3⟩
  | j :: ks, fs, p + 1, k, hl, h => by
    simp only [LamsAt] at hl
    obtain ⟨f, gs, L, rfl, h2, h3, h4⟩ := hl
    obtain ⟨f', L', q1, q2, q3⟩ := LamsAt.get h4 (by simpa using h)
    exact ⟨f', L', by simpa using q1, q2, q3⟩
theorem LamsAt.len {lam : Nat → Option LT} {H : Hp} : ∀ {ks : List Nat} {fs : List Addr}, LamsAt lam H ks fs → fs.length = ks.length
  | [], fs, h => by (simp only [LamsAt] at h; rw [h])
  | k :: ks, fs, h => by
    simp only [LamsAt] at h
    obtain ⟨f, gs, L, rfl, h2, h3, h4⟩ := h
    simp [LamsAt.len h4]
theorem LamsAt.app {lam : Nat → Option LT} {H : Hp} : ∀ {ks ks' : List Nat} {fs fs' : List Addr}, LamsAt lam H ks fs → LamsAt lam H ks' fs' → LamsAt lam H (ks ++ ks') (fs ++ fs')
  | [], _, fs, _, h, h' => by simp only [LamsAt] at h; rw [h]; exact h'
  | k :: ks, _, fs, _, h, h' => by
    simp only [LamsAt, List.cons_append] at h ⊢
    obtain ⟨f, gs, L, rfl, h2, h3, h4⟩ := h
    exact ⟨f, gs ++ _, L, rfl, h2, h3, LamsAt.app h4 h'⟩
theorem LamAt.extN {H H1 : Hp} {L : LT} {f : Addr} (e : ExtN H H1) (h : LamAt H L f) : LamAt H1 L f := by
  obtain ⟨c', dV, h1, h2, h3⟩ := h
  refine ⟨c', dV, e _ _ h1 (fun ps z => by cases z), e _ _ h2 (fun ps z => by cases z), ?_⟩
  rcases h3 with h3 | ⟨t, q1, q2, q3⟩
  · exact .inl h3
  · exact .inr ⟨t, q1, q2, e _ _ q3 (fun ps z => by cases z)⟩
theorem s_wat {i : Nat} {e : E} {x y : Str} {r : Expr} {p p1 p2 pos : Pos} (g : Good γ X sc W) (mk : MkTab γ X sc) (mw : MkW γ X sc fu n me) (hr : Room n X.A) (hst : X.stack = X.env :: X.outer) (hfr : X.env.frame = some X.env.locals) (hfn : ∀ y, X.fn y = true)
    (h : chkE sc me (.wat i e) (.Call (.Name x p) [.Subscript (.Name y p1) r p2] [] pos) = true) (he : PE X r (tI γ W (hxM X sc) (evE (callM fu n) me e))) : PE X (.Call (.Name x p) [.Subscript (.Name y p1) r p2] [] pos) (tI γ W (hxM X sc) (evE (callM fu n) me (.wat i e))) := by
  simp only [chkE, Bool.and_eq_true, decide_eq_true_eq, Bool.not_eq_true'] at h
  obtain ⟨⟨⟨⟨⟨⟨⟨⟨⟨h0, h00⟩, h1⟩, h2⟩, h3⟩, h4⟩, h5⟩, h6⟩, h7⟩, h8⟩ := h
  obtain ⟨g1, g2, g3⟩ := g.gl h1
  cases hws : me.ws with
  | nil => rw [hws] at h00; cases h00
  | cons q0 rest =>
    obtain ⟨k0, wd0, js0⟩ := q0
    have hl0 : me.ws.lookup k0 = some (wd0, js0) := by rw [hws]; simp [List.lookup]
    obtain ⟨a0, lamN0, gx, u1, u2, u3, u4, u5, u6⟩ := mw.w k0 wd0 js0 hl0
    have hn0 : wd0.nm = x := by
      have := List.all_eq_true.mp h7 (k0, wd0, js0) (by rw [hws]; exact List.mem_cons_self)
      simpa using this
    have hall : ∀ k wd js, me.ws.lookup k = some (wd, js) → wd.nm = x := fun k wd js hk => by
      have := List.all_eq_true.mp h7 _ (look_mem hk)
      simpa using this
    have pS : PE X (.Subscript (.Name y p1) r p2) (tOp (rIxL X.K) (tVar i) (tI γ W (hxM X sc) (evE (callM fu n) me e))) :=
      pe_ix ix_list (pe_var (by rw [g.hN]; exact h2) (g.vis h3) h4 h5) he (fun o i => by cases r <;> first | rfl | simp [notSlice] at h6)
    refine ⟨fun pins s σ H Q I h0 => ?_⟩
    obtain ⟨ρ, env, st, hh, R, Re, A⟩ := h0
    simp only [evE] at A
    refine wpAny_Call_Name_kw (ld_glob I g1 (by rw [← hn0]; exact u4) ?_ g2)
    refine PySem.W.callWith_K (h₀ := X.base) I.ok.mod.kin u5 ?_ (by rfl) (by rfl)
    show wpAny _ _ (spliced ((false, eval (.Subscript (.Name y p1) r p2) X.env) :: backTo pos (starEach [] X.env))) _ _ s
    split at A
    · rename_i ks hks
      obtain ⟨la, fs, m1, m2, m3, m4⟩ := Re.lm (i, ks) (look_mem hks)
      refine Calls.spliced_cons (thn (pS.run pins s σ H (fun v H1 => ∃ f k ρ1 st1 a, v = .ref f ∧ Rep γ ρ1 st1 H1 ∧ Ext ρ H ρ1 H1 ∧ sc.lamA.lookup k = some a ∧ LamAt H1 (mkL X a) f ∧ Aft γ ρ1 H1 (wrun (callM fu n) me k env st1) Q (fun cls d H' => W cls d σ H')) I ?_) fun u s1 ⟨v, H1, I1, r1, q1⟩ => ?_)
      · refine ⟨.ref la, m1, ρ, env, st, hh, R, Re, A.bind.imp fun w1 H1 q1 => ?_⟩
        obtain ⟨ρ1, st1, z, e1, R1, T1, fr1, A1⟩ := q1
        split at A1
        · rename_i j
          simp only [RepT, RepV] at T1
          subst T1
          split at A1
          · rename_i pp hpp
            split at A1
            · rename_i k hk
              have LA1 := m4.mono R e1
              obtain ⟨f, L, f1, f2, f3⟩ := LA1.get hk
              have f2 : (sc.lamA.lookup k).map (mkL X) = some L := f2
              obtain ⟨a, ha, rfl⟩ := Option.map_eq_some_iff.mp f2
              refine ⟨la, fs.map V.ref, j, .ref f, rfl, rfl, SqL.of (e1.keep _ _ m2 m3 (fun _ z => by cases z)), ?_, f, k, ρ1, st1, a, rfl, R1, e1, ha, f3, A1.ext e1⟩
              unfold atI
              rw [List.length_map, LamsAt.len m4, ← atN_ixN, hpp]
              show (fs.map V.ref)[pp]? = _
              rw [List.getElem?_map, f1]; rfl
            · exact A1.elim
          · exact A1.elim
        · exact A1.elim
      · obtain ⟨f, k, ρ1, st1, a, rfl, R1, e1, ha, LA, A1⟩ := q1
        obtain rfl : u = Value.ref f := r1
        refine Calls.spliced_nil ⟨I1.kIn, ?_⟩
        obtain ⟨v1, v2⟩ := mk.lam k a ha
        obtain ⟨wd', js', g', z1, z2, z3, z4⟩ := wcall g mw hr hst hfr hfn I1 R1 (Re.mono R e1) ha v2 LA A1
        have := hall k wd' js' z1
        rw [this, ← hn0, u4] at z2
        cases z2
        exact z4
    · exact A.elim
/-- a lambda as a value -/
theorem pe_lam {k : Nat} {a : LamA} {lpos : Pos} (g : Good γ X sc W) (mk : MkTab γ X sc) (ha : sc.lamA.lookup k = some a) :
    PE X (.Lambda a.params a.body a.scope lpos) (fun σ H Q => TabsN γ.T H ∧ ∀ f H1, ExtN H H1 → (∀ b, H1 b = none → H b = none) → TabsN γ.T H1 → LamAt H1 (mkL X a) f → Q (.ref f) H1) := by
  obtain ⟨m1, m2⟩ := mk.lam k a ha
  obtain ⟨c, Pt, nm, t1, t2, t3, t4, t5⟩ := mk.tab
  refine ⟨fun pins s σ H Q I h => ?_⟩
  have hfree : ∀ y ∈ a.scope.names, y.2 = .free → ∃ c, X.env.cells.lookup y.1 = some c := fun y hy e => by
    rcases m2 y hy e with z | z
    · exact I.ok.has _ (.inl (by show X.env.scope.names.lookup _ = _; rw [g.nm]; exact z))
    · exact I.ok.has _ (.inr (by show X.env.scope.names.lookup _ = _; rw [g.nm]; exact z))
  exact lam_mk I t1 t2 t3 (t5 _ _) t4 h.1 hfree m1 fun f H1 s' I1 kn LA => ⟨.ref f, H1, I1, rfl, h.2 f H1 kn.ext kn.all kn.tabs LA⟩
def tLams (γ : Gm) (lam : Nat → Option LT) (ks : List Nat) : TA := fun σ H Q => TabsN γ.T H ∧ ∀ fs H1, ExtN H H1 → (∀ b, H1 b = none → H b = none) → TabsN γ.T H1 → LamsAt lam H1 ks fs → Q (fs.map V.ref) H1
theorem pa_lams (g : Good γ X sc W) (mk : MkTab γ X sc) : ∀ {ks : List Nat} {as : List Expr}, chkLs sc ks as = true → PA X as (tLams γ (hxM X sc).lam ks)
  | [], [], _ => PA.imp pa_nil fun σ H Q h => h.2 [] H (.refl H) (fun _ e => e) h.1 rfl
  | [], _ :: _, h => by simp [chkLs] at h
  | _ :: _, [], h => by simp [chkLs] at h
  | k :: ks, a :: as, h => by
    simp only [chkLs, Bool.and_eq_true] at h
    obtain ⟨⟨h1, h2⟩, h3⟩ := h
    cases ha : sc.lamA.lookup k with
    | none => rw [ha] at h1; cases h1
    | some l =>
      rw [ha] at h1
      simp only at h1
      cases a <;> first | (simp [LamA.is] at h1; done) | skip
      rename_i params body scope lpos
      obtain ⟨rfl, rfl, rfl⟩ := LamA.is_eq h1
      refine PA.imp (pa_cons (pe_lam g mk ha) (pa_lams g mk h3) (star_one h2 _ _)) fun σ H Q q => ?_
      refine ⟨q.1, fun f H1 e1 n1 T1 LA => ⟨T1, fun fs H2 e2 n2 T2 LAs => ?_⟩⟩
      exact q.2 (f :: fs) H2 (e1.trans e2) (fun b z => n1 b (n2 b z)) T2 ⟨f, fs, mkL X l, rfl, by show (sc.lamA.lookup k).map (mkL X) = _; rw [ha]; rfl, LA.extN e2, LAs⟩
theorem lams_end {ρ : List Addr} {H1 : Hp} {st : Store} {env : Env} {σ : L2.St} {i p : Nat} {ks : List Nat} {fs : List Addr} (Re : REnv γ (hxM X sc) ρ H1 env σ) (R1 : Rep γ ρ st H1) (hi : i < env.sl.length) (hp : H1 p = none) (hl : LamsAt (hxM X sc).lam H1 ks fs) :
    REnv γ (hxM X sc) ρ (upd H1 p (.lst (fs.map V.ref))) { env with sl := env.sl.set i none, lm := (i, ks) :: env.lm.filter fun q => q.1 != i } (σ.set i (some (.ref p))) := by
  have eL : Ext ρ H1 ρ (upd H1 p (.lst (fs.map V.ref))) := Ext.laid hp
  have Re2 := Re.mono R1 eL
  refine ⟨by simp [Re.len], fun j x q => ?_, Re2.hv, fun q hq => ?_, Re2.la⟩
  · by_cases hj : j = i
    · subst hj
      have q : (env.sl.set j none)[j]? = some (some x) := q
      rw [List.getElem?_set_self hi] at q
      cases q
    · have q : (env.sl.set i none)[j]? = some (some x) := q
      rw [List.getElem?_set_ne (Ne.symm hj)] at q
      obtain ⟨w, h1, h2⟩ := Re2.sl j x q
      exact ⟨w, by rw [List.getElem?_set_ne (Ne.symm hj)]; exact h1, h2⟩
  · rcases List.mem_cons.mp hq with rfl | hq
    · exact ⟨p, fs, by rw [List.getElem?_set_self (by rw [← Re.len]; exact hi)], upd_same, fun z => R1.tracked z hp, hl.mono R1 eL⟩
    · obtain ⟨h1, h2⟩ := List.mem_filter.mp hq
      obtain ⟨a, gs, q1, q2⟩ := Re2.lm q h1
      have hne : i ≠ q.1 := fun z => by
        have h2 : (q.1 != i) = true := h2
        rw [z] at h2
        simp at h2
      exact ⟨a, gs, by rw [List.getElem?_set_ne hne]; exact q1, q2⟩
theorem s_lams {i : Nat} {app : Bool} {ks : List Nat} {s : Stmt} (g : Good γ X sc W) (mk : MkTab γ X sc) (h : chkS sc me (.lams i app ks) s = true) : PS X s (tSI γ W (hxM X sc) (evS (callM fu n) me fu (.lams i app ks))) := by
  have hk : X.env.scope.kind = .function := by rw [g.nm]; exact g.kd
  cases s <;> first | (simp [chkS] at h; done) | skip
  rename_i tgs a pos
  simp only [chkS, Bool.and_eq_true, Bool.not_eq_true'] at h
  obtain ⟨⟨h1, h2⟩, h⟩ := h
  split at h
  case h_2 => cases h
  rename_i x hnb
  obtain ⟨px, rfl⟩ := nmB_eq hnb
  simp only [Bool.and_eq_true, decide_eq_true_eq] at h
  obtain ⟨⟨h3, h4⟩, h5⟩ := h
  have hL := g.st x h4
  have hN : X.N[i]? = some x := by rw [g.hN]; exact h3
  cases app with
  | false =>
    cases a <;> first | (simp [chkL] at h5; done) | skip
    rename_i as lp
    simp only [chkL, Bool.and_eq_true, decide_eq_true_eq] at h5
    refine PS.imp (ps_asg (pe_lst (pa_lams g mk h5.1)) (pg_name g.nd hN hL.1 hL.2) (by rw [sw_with hk rfl]; rfl) (sw_none hk rfl) rfl) fun D σ H q => ?_
    obtain ⟨ρ, env, st, hh, R, Re, A⟩ := q
    simp only [evS] at A
    split at A
    · rename_i hi
      refine ⟨R.tb, fun fs H1 e1 n1 T1 LA => ?_⟩
      obtain ⟨R1, eL⟩ := rep_extN R e1 n1 T1
      refine ⟨by rw [List.length_map, LA.len, sizeLine_n]; exact Nat.le_trans h5.2 (by decide), fun p hp => ?_⟩
      exact A ρ _ _ (eL.trans (Ext.laid hp)) (R1.laid hp) (lams_end (Re.mono R eL) R1 hi hp LA) trivial
    · exact A.elim
  | true =>
    cases a <;> first | (simp [chkL] at h5; done) | skip
    rename_i l o r bp
    cases l <;> first | (simp [chkL] at h5; done) | skip
    cases o <;> first | (simp [chkL] at h5; done) | skip
    cases r <;> first | (simp [chkL] at h5; done) | skip
    rename_i y py as lp
    simp only [chkL, Bool.and_eq_true, decide_eq_true_eq, Bool.not_eq_true'] at h5
    obtain ⟨⟨⟨⟨⟨k1, k2⟩, k3⟩, k4⟩, k5⟩, k6⟩ := h5
    subst k1
    refine PS.imp (ps_asg (pe_op op_cat (pe_var hN (g.vis k2) k3 k4) (pe_lst (pa_lams g mk k5))) (pg_name g.nd hN hL.1 hL.2) (by rw [sw_with hk rfl]; rfl) (sw_none hk rfl) rfl) fun D σ H q => ?_
    obtain ⟨ρ, env, st, hh, R, Re, A⟩ := q
    simp only [evS] at A
    split at A
    · rename_i hi
      split at A
      · rename_i hh2
        cases hh2
      · rename_i ks0 _ hk0
        split at A
        · rename_i hle
          obtain ⟨la, fs0, m1, m2, m3, m4⟩ := Re.lm (i, ks0) (look_mem hk0)
          refine ⟨.ref la, m1, R.tb, fun fs H1 e1 n1 T1 LA => ?_⟩
          obtain ⟨R1, eL⟩ := rep_extN R e1 n1 T1
          refine ⟨by rw [List.length_map, LA.len, sizeLine_n]; exact Nat.le_trans k6 (by decide), fun p hp => ?_⟩
          have e2 : Ext ρ H1 ρ (upd H1 p (.lst (fs.map V.ref))) := Ext.laid hp
          have R2 := R1.laid (o := .lst (fs.map V.ref)) hp
          have e12 := eL.trans e2
          have hla : upd H1 p (.lst (fs.map V.ref)) la = some (.lst (fs0.map V.ref)) := e12.keep _ _ m2 m3 (fun _ z => by cases z)
          refine ⟨la, p, fs0.map V.ref, fs.map V.ref, rfl, rfl, hla, upd_same, ?_, fun p2 hp2 => ?_⟩
          · rw [List.length_map, List.length_map, m4.len, LA.len, sizeLine_n]
            exact Nat.le_trans hle (by decide)
          · rw [← List.map_append]
            have LA2 : LamsAt (hxM X sc).lam (upd H1 p (.lst (fs.map V.ref))) (ks0 ++ ks) (fs0 ++ fs) := (m4.mono R e12).app (LA.mono R1 e2)
            exact A ρ _ _ (e12.trans (Ext.laid hp2)) (R2.laid hp2) (lams_end (Re.mono R e12) R2 hi hp2 LA2) trivial
        · exact A.elim
      · exact A.elim
    · exact A.elim
end
/-! ### the defs -/
section
variable {γ : Gm} {P : Program} {w : World} {K : PySem.W.Frag} {mg : Str → Option Value} {base : Heap} {fu n : Nat}
/-- the table of a def's code object, told of the text -/
structure TabFn (γ : Gm) (base : Heap) (mg : Str → Option Value) (qual : Str) (fdat : FuncData) : Prop where
  tab : ∃ c Pt nm, TabB base mg c Pt ∧ fdat.code = .ref c ∧ (Pt, nm) ∈ γ.T ∧ (∀ p ∈ γ.T, p.1 = Pt → p.2 = nm) ∧ ∀ l k : Nat, nm l k = (envOfC qual default 0 0 .none).qual ++ "<lambda>"
/-- the lambdas of a def's text -/
structure LamFn (γ : Gm) (P : Program) (w : World) (K : PySem.W.Frag) (mg : Str → Option Value) (base : Heap) (fu n : Nat) (sc : Sc) (me : FnDef) : Prop where
  lam : ∀ k a, sc.lamA.lookup k = some a → parB a.scope a.params = true ∧ ∀ y ∈ a.scope.names, y.2 = .free → sc.scope.names.lookup y.1 = some .cell ∨ sc.scope.names.lookup y.1 = some .free
  w : ∀ k wd js, me.ws.lookup k = some (wd, js) → ∃ a lamN g, sc.lamA.lookup k = some a ∧ (∀ y ∈ lamN, (y, NameKind.free) ∈ a.scope.names) ∧ js.map (fun j => sc.N[j]?) = lamN.map some ∧ mg wd.nm = some (.ref g) ∧ PySem.W.keepIn K (.ref g) = true ∧
    WSnd γ P w K mg base fu n wd lamN a g
theorem fn_run {fd : FnDef} {qual : Str} {st : Stmt} {f : Addr} {fdat : FuncData} {sc : Sc} (hK : γ.K = K) (free : ∀ x ∈ bNames, mg x = none) (F : L2.Fun K qual qual st f fdat) (S : FnScope fd.N (fd.N.take fd.np) (defScope st)) (hnp : fd.np ≤ fd.N.length) (h1 : sc.N = fd.N) (h2 : sc.scope = defScope st) (h3 : sc.raw = defScope st) (h4 : sc.hn = none) (h5 : sc.actN = none)
    (hchk : chkSs sc fd fd.body (defBody st) = true) (hcal : ∀ A, Room n A → calSs (CallOk γ P w K mg base A (callM fu n)) (GcOk γ mg) (RaiseAny γ P w K mg base) (CatchOk γ K mg) fd fd.body) (ck : ClsOk γ K mg sc.isN sc.isF) (hl : sc.lamA = [] ∨ (TabFn γ base mg qual fdat ∧ LamFn γ P w K mg base fu n sc fd)) :
    FnOk P w K mg base (L2.CX P w) (n + 1) f fdat (fd.N.take fd.np) (spI γ (callM fu (n + 1)) fd) := by
  have hlenP : (fd.N.take fd.np).length = fd.np := by rw [List.length_take]; omega
  obtain ⟨oc, od, kV, doc, pm, an, cdv, ct, osl, hfd, lk, hcode⟩ := F.ex
  subst hfd
  refine fn_of lk hcode S (fun vs H Q E h => ?_) fun A outer s H vs Q E hr hsp => ?_
  · obtain ⟨ρ, st', xs, R, r, hx, A⟩ := h
    rw [r.length, hx, hlenP]
  · obtain ⟨ρ, st', xs, R, r, hx, A0⟩ := hsp
    rw [callM_succ, if_pos hx] at A0
    have G0 := good_cx (γ := γ) (P := P) (w := w) (K := K) (mg := mg) (base := base) (outer := outer) (H := H) (E := E) sc hK free S.nd S.kind S.nofree hr h1 h2 h3
    have hsl : (L2.start fd.N vs).length = fd.N.length := by
      unfold L2.start
      rw [List.length_append, List.length_map, List.length_replicate, r.length, hx]; omega
    have hss : ∀ (j : Nat) (v : V), vs[j]? = some v → (L2.start fd.N vs)[j]? = some (some v) := fun j v q => by
      unfold L2.start
      have hj : j < vs.length := (List.getElem?_eq_some_iff.mp q).1
      rw [List.getElem?_append_left (by simpa using hj), List.getElem?_map, q]; rfl
    have su : ∀ (hx : HX) (hn : ∀ (pn : List (Addr × Obj)) (xe : Value → Shared → Prop) (W' : WX), Takes ((cxOf (L2.CX P w) P w K mg base fd.N qual (defScope st) f cdv A outer s H E).tr pn xe) W' → Hnd γ ((cxOf (L2.CX P w) P w K mg base fd.N qual (defScope st) f cdv A outer s H E).tr pn xe) sc (callM fu n) fd hx W'),
        FrameOk γ (cxOf (L2.CX P w) P w K mg base fd.N qual (defScope st) f cdv A outer s H E) sc hx (callM fu n) fd := fun hx hn =>
      ⟨rfl, rfl, hn, fun a oe cls d pn slot m z1 z2 z3 z4 => s_suite G0 ck z1 z2 z3 z4, fun a oe cls d pn z1 z2 => by
        refine ⟨fun e ex q1 q2 => ?_, fun i e x y r p p1 p2 pos q => ?_⟩
        · cases e <;> simp [isHn] at q1 <;> ((simp only [chkE] at q2; first | unfold hIsB at q2 | unfold hFldB at q2 | unfold actB at q2 | unfold wlitB at q2) <;> split at q2 <;> simp_all [Sc.suite])
        · simp only [chkE, Sc.suite, List.isEmpty_nil, Bool.not_true, Bool.false_and, Bool.false_eq_true] at q⟩
    rcases hl with hl | ⟨ht, hlm⟩
    · have hn : ∀ (pn : List (Addr × Obj)) (xe : Value → Shared → Prop) (W' : WX), Takes ((cxOf (L2.CX P w) P w K mg base fd.N qual (defScope st) f cdv A outer s H E).tr pn xe) W' → Hnd γ ((cxOf (L2.CX P w) P w K mg base fd.N qual (defScope st) f cdv A outer s H E).tr pn xe) sc (callM fu n) fd hx0 W' := fun pn xe W' _ => Hnd.none h4 h5 hl
      exact ⟨_, sndSs (fu := fu) fd.body (defBody st) G0 (passes_of rfl) (hn [] _ _ G0.tk) (hn [] _ _ L2.takes0) (fun _ _ _ => trivial) (fun _ => su hx0 hn) (LamsOk.none hl) hchk (hcal _ hr),
        ρ, startE fd xs, st', trivial, R, start_env hsl (by rw [hx]; exact hnp) hss r (fun p q => by cases q), exit_aft A0⟩
    · obtain ⟨c, Pt, nm, t1, t2, t3, t4, t5⟩ := ht.tab
      have mk : ∀ (pn : List (Addr × Obj)) (xe : Value → Shared → Prop), MkTab γ ((cxOf (L2.CX P w) P w K mg base fd.N qual (defScope st) f cdv A outer s H E).tr pn xe) sc := fun pn xe => ⟨⟨c, Pt, nm, t1, t2, t3, t4, t5⟩, hlm.lam⟩
      have mw : ∀ (pn : List (Addr × Obj)) (xe : Value → Shared → Prop), MkW γ ((cxOf (L2.CX P w) P w K mg base fd.N qual (defScope st) f cdv A outer s H E).tr pn xe) sc fu n fd := fun pn xe => ⟨hlm.w⟩
      have hn : ∀ (pn : List (Addr × Obj)) (xe : Value → Shared → Prop) (W' : WX), Takes ((cxOf (L2.CX P w) P w K mg base fd.N qual (defScope st) f cdv A outer s H E).tr pn xe) W' → Hnd γ ((cxOf (L2.CX P w) P w K mg base fd.N qual (defScope st) f cdv A outer s H E).tr pn xe) sc (callM fu n) fd (hxM (cxOf (L2.CX P w) P w K mg base fd.N qual (defScope st) f cdv A outer s H E) sc) W' := by
        intro pn xe W' tk
        refine ⟨fun e ex q1 q2 => ?_, fun i e x y r p p1 p2 pos q he => s_wat (G0.tr tk) (mk pn xe) (mw pn xe) hr rfl rfl (fun _ => rfl) q he⟩
        cases e <;> simp [isHn] at q1
        · (simp only [chkE] at q2; first | unfold hIsB at q2 | unfold hFldB at q2 | unfold actB at q2 | unfold wlitB at q2) <;> split at q2 <;> simp_all
        · (simp only [chkE] at q2; first | unfold hIsB at q2 | unfold hFldB at q2 | unfold actB at q2 | unfold wlitB at q2) <;> split at q2 <;> simp_all
        · (simp only [chkE] at q2; first | unfold hIsB at q2 | unfold hFldB at q2 | unfold actB at q2 | unfold wlitB at q2) <;> split at q2 <;> simp_all
        · rename_i k
          cases ex <;> first | (simp [chkE, wlitB] at q2; done) | skip
          rename_i fn as ks pos
          cases fn <;> first | (simp [chkE, wlitB] at q2; done) | skip
          rename_i x p
          rcases as with _ | ⟨l, _ | ⟨l2, as⟩⟩ <;> first | (simp [chkE, wlitB] at q2; done) | skip
          cases ks with
          | cons _ _ => simp [chkE, wlitB] at q2
          | nil => exact s_wlit (G0.tr tk) (mk pn xe) (mw pn xe) hr rfl rfl (fun _ => rfl) q2
      exact ⟨_, sndSs (fu := fu) fd.body (defBody st) G0 (passes_of rfl) (hn [] _ _ G0.tk) (hn [] _ _ L2.takes0) (fun _ _ _ => trivial) (fun _ => su _ hn) (fun pn xe W' tk i app ks s h => s_lams (G0.tr tk) (mk pn xe) h) hchk (hcal _ hr),
        ρ, startE fd xs, st', trivial, R, start_env hsl (by rw [hx]; exact hnp) hss r (fun p q => by cases q), exit_aft A0⟩
/-- all defs at level n -/
structure Snd (γ : Gm) (P : Program) (w : World) (K : PySem.W.Frag) (mg : Str → Option Value) (base : Heap) (fu n : Nat) (D : FnDef → Prop) (Lm : FnDef → LamA → Prop) (Wm : FnDef → List Str → LamA → Addr → Prop) : Prop where
  d : ∀ fd, D fd → ∀ A, Room n A → CallOk γ P w K mg base A (callM fu n) fd
  l : ∀ lam a, Lm lam a → LamSnd γ P w K mg base fu n lam a
  w : ∀ wd lamN a g, Wm wd lamN a g → WSnd γ P w K mg base fu n wd lamN a g
/-- where a def's object lies -/
structure At (K : PySem.W.Frag) (mg : Str → Option Value) (fd : FnDef) (f : Addr) (fdat : FuncData) : Prop where
  m : mg fd.nm = some (.ref f)
  k : PySem.W.keepIn K (.ref f) = true
  b : L2.Binds K fdat (fd.N.take fd.np) []
theorem snd_all {D : FnDef → Prop} {Lm : FnDef → LamA → Prop} {Wm : FnDef → List Str → LamA → Addr → Prop} (at_ : ∀ fd, D fd → ∃ f fdat, At K mg fd f fdat ∧ ∀ n, Snd γ P w K mg base fu n D Lm Wm → FnOk P w K mg base (L2.CX P w) (n + 1) f fdat (fd.N.take fd.np) (spI γ (callM fu (n + 1)) fd))
    (hl : ∀ lam a, Lm lam a → ∀ n, Snd γ P w K mg base fu n D Lm Wm → LamSnd γ P w K mg base fu (n + 1) lam a) (hw : ∀ wd lamN a g, Wm wd lamN a g → ∀ n, Snd γ P w K mg base fu n D Lm Wm → WSnd γ P w K mg base fu (n + 1) wd lamN a g) : ∀ n, Snd γ P w K mg base fu n D Lm Wm
  | 0 => ⟨fun fd hd A hr => by
      obtain ⟨f, fdat, ha, _⟩ := at_ fd hd
      refine ⟨f, fdat, 0, ⟨fun vs H Q E h => ?_, fun A outer s H args us vs Q E _ _ _ _ h => ?_⟩, hr, ha.m, ha.k, ha.b⟩
      · obtain ⟨ρ, st, xs, _, _, _, A⟩ := h
        exact A.elim
      · obtain ⟨ρ, st, xs, _, _, _, A⟩ := h
        exact A.elim, fun lam a _ A outer s H ρ st xs vs L f Q E _ _ _ _ _ _ _ A0 => A0.elim, fun wd lamN a g _ A outer s H ρ st xs vs L f Q E _ _ _ _ _ _ _ _ A0 => A0.elim⟩
  | n + 1 => by
    have ih := snd_all at_ hl hw n
    exact ⟨fun fd hd A hr => by
      obtain ⟨f, fdat, ha, hf⟩ := at_ fd hd
      exact ⟨f, fdat, n + 1, hf n ih, hr, ha.m, ha.k, ha.b⟩, fun lam a h => hl lam a h n ih, fun wd lamN a g h => hw wd lamN a g h n ih⟩
end
end MP

set_option linter.all false
set_option autoImplicit false
set_option Elab.async false
set_option maxRecDepth 100000
namespace MP
open PySem L2 PySem.Spec PyProof.Rows

/-! ### from the head's facts to what a def's run asks -/
theorem fun_of {K : PySem.W.Frag} {x qual : Str} {stm : Stmt} {kws : List (Str × V)} {f : Addr} {fdat : FuncData} (F : FunD K x qual (defArgs stm) (defBody stm) (defScope stm) [] kws f fdat) : L2.Fun K x qual stm f fdat := by
  obtain ⟨_, _, _, _, _, _, _, _, _, _, e, lk, code, noDefaults, _⟩ := F.ex
  rcases noDefaults with ⟨_, rfl⟩ | ⟨some_, _⟩
  · exact ⟨⟨_, _, _, _, _, _, _, _, _, e, lk, code⟩, F.kp⟩
  · exact absurd rfl some_
/-- the classes by their numbers, with the field that they keep, if they keep one -/
abbrev CsT := List (Nat × Str × Option Str)
def xtOf (K : PySem.W.Frag) (cs : CsT) (k : Nat) : Option (Addr × Option Str) := (cs.lookup k).map fun x => (He.ga K x.1, x.2)
theorem num_look {β : Type} {k : Nat} {v : β} {l : List (Nat × β)} (h : l.lookup k = some v) : (k, v) ∈ l := look_mem h
theorem xtOf_some {K : PySem.W.Frag} {cs : CsT} {k : Nat} {C : Addr} {f : Option Str} (h : xtOf K cs k = some (C, f)) : ∃ x, (k, x) ∈ cs ∧ C = He.ga K x.1 ∧ f = x.2 := by
  obtain ⟨x, at_, e⟩ := Option.map_eq_some_iff.mp h
  cases e
  exact ⟨x, num_look at_, rfl, rfl⟩
/-- what is asked of an exception class for isinstance, as a test -/
def askB (K : PySem.W.Frag) (D : Addr) : Bool :=
  [decide (PySem.W.findIn K (.ref D) "__getattribute__" = some (some (.builtin "BaseException.__getattribute__"))), decide (PySem.W.findIn K (.ref D) "__getattr__" = some none), decide (PySem.W.subIn K (.ref D) (.type "BaseException") = some true),
    PySem.W.hasDictIn K D, decide (PySem.W.findIn K (.ref D) "__class__" = some (some (.builtin "object.__class__"))), decide (PySem.W.specialIn K (.builtin "object.__class__") "__get__" = some (some (.builtin "getset_descriptor.__get__"))),
    decide (PySem.W.takesIn K (.builtin "object.__class__") = some true), decide (PySem.W.mroIn K D (.type "object") = some true)].all id
theorem askB_ok {K : PySem.W.Frag} {D : Addr} (h : askB K D = true) : ExcC K D := by
  simp only [askB, List.all_cons, List.all_nil, id_eq, Bool.and_eq_true, decide_eq_true_eq] at h
  exact { hg := h.1, hk := h.2.1, hs := h.2.2.1, hd := h.2.2.2.1, ha := h.2.2.2.2.1, hn := h.2.2.2.2.2.1, ht := h.2.2.2.2.2.2.1, hm := h.2.2.2.2.2.2.2.1 }
/-- all that the laws ask of their exception classes: isN the names that suites ask for, by number; caught the names that clauses name -/
def excB (cs : CsT) (isN caught : List (Str × Nat)) (isF : List (Nat × Str)) (K : PySem.W.Frag) : Bool :=
  (cs.all fun q => askB K (He.ga K q.2.1)) && (isN.all fun p => cs.all fun q => decide (PySem.W.kitOne K (.ref (He.ga K q.2.1)) (.ref (He.ga K p.1)) = some (decide (q.1 = p.2)))) &&
    (caught.all fun p => cs.all fun q => decide (PySem.W.exmOne K (.ref (He.ga K q.2.1)) (.ref (He.ga K p.1)) = some (decide (p.2 = q.1 ∨ p.2 = 0)))) &&
    isF.all fun p => cs.all fun q => !(decide (q.1 = p.1)) || (decide (q.2.2 = some p.2) && decide (PySem.W.findIn K (.ref (He.ga K q.2.1)) p.2 = some none))
theorem str_look {β : Type} {k : Str} {v : β} {l : List (Str × β)} (h : l.lookup k = some v) : (k, v) ∈ l := PySem.mem_of_lookup h
section
variable {γ : Gm} {K : PySem.W.Frag} {mg : Str → Option Value} {cs : CsT} {isN caught : List (Str × Nat)} {isF : List (Nat × Str)}
theorem cls_of (hx : γ.xt = xtOf K cs) (h : excB cs isN caught isF K = true) (glo : ∀ p ∈ isN, mg p.1 = some (.ref (He.ga K p.1))) : ClsOk γ K mg isN isF := by
  simp only [excB, Bool.and_eq_true, List.all_eq_true] at h
  obtain ⟨⟨⟨ask, is⟩, -⟩, fl⟩ := h
  constructor
  · intro k C f there
    rw [hx] at there
    obtain ⟨x, at_, rfl, rfl⟩ := xtOf_some there
    exact askB_ok (ask _ at_)
  · intro k f mem C g there
    rw [hx] at there
    obtain ⟨x, at_, rfl, e⟩ := xtOf_some there
    have z := fl _ mem _ at_
    simp only [decide_true, Bool.not_true, Bool.false_or, Bool.and_eq_true, decide_eq_true_eq] at z
    exact ⟨Option.some.inj (e.trans z.1), z.2⟩
  · intro nm c look
    have mem := str_look look
    refine ⟨_, glo _ mem, fun k C f there => ?_⟩
    rw [hx] at there
    obtain ⟨x, at_, rfl, rfl⟩ := xtOf_some there
    exact of_decide_eq_true (is _ mem _ at_)
theorem ClsOk.nil (h : ClsOk γ K mg isN isF) : ClsOk γ K mg [] [] := ⟨h.nod, fun _ _ z => (by cases z), fun _ _ z => (by cases z)⟩
theorem catch_of (hx : γ.xt = xtOf K cs) (h : excB cs isN caught isF K = true) {c : Nat} {nm : Str} (mem : (nm, c) ∈ caught) (glo : mg nm = some (.ref (He.ga K nm))) : CatchOk γ K mg c nm := by
  simp only [excB, Bool.and_eq_true, List.all_eq_true] at h
  refine ⟨_, glo, fun k C f there => ?_⟩
  rw [hx] at there
  obtain ⟨x, at_, rfl, rfl⟩ := xtOf_some there
  exact of_decide_eq_true (h.1.2 _ mem _ at_)
theorem raise_of (hx : γ.xt = xtOf K cs) {c : Nat} {nm : Str} (at_ : cs.lookup c = some (nm, none)) (glo : mg nm = some (.ref (He.ga K nm))) (fact : (He.Fa.exc nm).ok K = true) : RaiseOk γ K mg c nm := by
  obtain ⟨made, kept, sub, ty⟩ := He.exc_ok fact
  exact ⟨_, _, _, _, _, by rw [hx, xtOf, at_]; rfl, glo, PySem.F.excBase_ValueError, made, kept, sub, ty⟩
theorem int_of {x : Str} {i : Int} (h : ∃ t, mg x = some (.int i t)) : GcOk γ mg x (.int i) := h.elim fun t e => ⟨_, .int i, e, ⟨t, rfl⟩, rfl⟩
end
/-! ### the lambdas of a text, in its order -/
mutual
def lamsE : Expr → List LamA
  | .Lambda a b sc _ => [⟨a, b, sc⟩]
  | .Call f as _ _ => lamsE f ++ lamsEs as
  | .Compare l _ rs _ => lamsE l ++ lamsEs rs
  | .BoolOp _ vs _ => lamsEs vs
  | .UnaryOp _ x _ => lamsE x
  | .BinOp l _ r _ => lamsE l ++ lamsE r
  | .IfExp c x y _ => lamsE c ++ lamsE x ++ lamsE y
  | .List es _ => lamsEs es
  | .Tuple es _ _ => lamsEs es
  | .Subscript x y _ => lamsE x ++ lamsE y
  | _ => []
def lamsEs : List Expr → List LamA
  | [] => []
  | x :: xs => lamsE x ++ lamsEs xs
end
mutual
def lamsS : Stmt → List LamA
  | .Assign _ v _ => lamsE v
  | .Expr v _ => lamsE v
  | .Return (some v) _ => lamsE v
  | .If c p q _ => lamsE c ++ lamsSs p ++ lamsSs q
  | .For _ it p _ _ => lamsE it ++ lamsSs p
  | .While c p _ _ => lamsE c ++ lamsSs p
  | _ => []
def lamsSs : List Stmt → List LamA
  | [] => []
  | x :: xs => lamsS x ++ lamsSs xs
end
def lamAt (stm : Stmt) (k : Nat) : LamA := (lamsSs (defBody stm)).getD k ⟨noPar, .Name Str.empty ⟨0, 0, 0, 0⟩, ⟨.function, [], false, false, []⟩⟩
end MP

set_option linter.all false
set_option autoImplicit false
set_option Elab.async false
set_option maxRecDepth 100000
namespace MP
open PySem L2 PySem.Spec PyProof.Rows LamX NdefX

/-! ### a script that is tracked as a plain list: it is locked, run, and told of the old heap again -/
section
variable {P : Program} {w : World} {K : PySem.W.Frag} {mg : Str → Option Value} {base : Heap} {A : Around} {outer : List PySem.Env} {s s' : Shared} {H : Hp} {a : Addr} {xs : List V} {o : Obj} {Q : VK} {E : XK} {r : Result}
theorem thaw_env (e0 : Env0 P w K mg base A outer s H) (h : H a = some (.lst xs)) : ∃ o, Env0 P w K mg base A outer s (upd H a (.frz o (.lst xs))) := by
  obtain ⟨few, its, n, vals, there⟩ := id (e0.hok a _ h)
  have off : ∀ b u, H b = u → u ≠ some (.lst xs) → upd H a (.frz { cls := .type "list", data := .seq its.toArray n } (.lst xs)) b = u := fun b u q ne => by
    rw [upd_ne (fun z => ne (by rw [← q, z, h]))]; exact q
  refine ⟨_, e0.frames, e0.mod, fun b u q => ⟨(e0.bs b u q).1, off b _ (e0.bs b u q).2 (by simp)⟩, e0.bsz, e0.funs, fun b hb => off b _ (e0.frf b hb) (by simp), fun b u q => ?_, e0.bare⟩
  by_cases hb : b = a
  · subst hb
    rw [upd_same] at q
    cases q
    exact ⟨there, few, its, n, vals, there⟩
  · rw [upd_ne hb] at q
    exact (e0.hok b u q).stay (fun _ _ _ z => z) (fun c z => off c _ z (by simp)) fun c ys z => off c _ z (by simp)
theorem thaw_back (h : H a = some (.lst xs)) (q : CR (L2.CX P w) outer P w (upd H a (.frz o (.lst xs))) s Q E r s') : CR (L2.CX P w) outer P w H s Q E r s' := by
  have off : ∀ b u, H b = u → u ≠ some (.lst xs) → upd H a (.frz o (.lst xs)) b = u := fun b u q ne => by
    rw [upd_ne (fun z => ne (by rw [← q, z, h]))]; exact q
  cases r with
  | ok fl =>
    cases fl with
    | ret u =>
      obtain ⟨v, H', os, bare, un, hok, rel, post⟩ := q
      exact ⟨v, H', os, bare, ⟨fun b u e n => un.keep b u e (off b _ n (by simp)), fun b u e n => un.slot b u e (off b _ n (by simp)), fun b u e n => un.free b u e (off b _ n (by simp)), un.there,
        fun b ys n => un.tups b ys (off b _ n (by simp)), fun b u z n => un.frzs b u z (off b _ n (by simp)), fun b ps n => un.tbls b ps (off b _ n (by simp))⟩, hok, rel, post⟩
    | _ => exact q
  | error e =>
    obtain ⟨a', B, H', cls, d, q1, q2, q3, ub, q4, q5, q6, q7⟩ := q
    exact ⟨a', B, H', cls, d, q1, q2, q3, ⟨fun b u e n => ub.keep b u e (off b _ n (by simp)), ub.slot, fun b u e n => ub.free b u e (off b _ n (by simp)), ub.there,
        fun b ys n => ub.tups b ys (off b _ n (by simp)), fun b u z n => ub.frzs b u z (off b _ n (by simp)), fun b ps n => ub.tbls b ps (off b _ n (by simp))⟩, q4, q5, q6, q7⟩
/-- the promise for the locked heap, kept for the open one -/
def thawed (sp : Sp) : Sp := fun vs H Q E => sp vs H Q E ∨ ∃ a xs, H a = some (.lst xs) ∧ ∀ o, sp vs (upd H a (.frz o (.lst xs))) Q E
theorem thaw {k : Nat} {f : Addr} {fd : FuncData} {ps : List Str} {sp : Sp} (F : FnOk P w K mg base (L2.CX P w) k f fd ps sp) : FnOk P w K mg base (L2.CX P w) k f fd ps (thawed sp) := by
  refine ⟨fun vs H Q E q => ?_, fun A outer s H args us vs Q E room e0 binds vals q => ?_⟩
  · rcases q with q | ⟨a, xs, _, q⟩
    · exact F.len _ _ _ _ q
    · exact F.len _ _ _ _ (q default)
  · rcases q with q | ⟨a, xs, there, q⟩
    · exact F.run A outer s H args us vs Q E room e0 binds vals q
    · obtain ⟨o, e1⟩ := thaw_env e0 there
      exact codeAny_mono (F.run A outer s _ args us vs Q E room e1 binds vals (q o)) fun r s' z => thaw_back there z
end

/-! ### constants of the top: nested tuples -/
/-- the model's reading of a datum that is no tuple -/
def atomV : IV → Option V
  | .non => some .non
  | .bl b => some (.bl b)
  | .int i => some (.int i)
  | .str x => some (.str x)
  | _ => none
mutual
def repB (K : PySem.W.Frag) : IV → Value → Bool
  | .tup xs, u => (match u with
    | .ref a => (match K.lookup a with
      | some ⟨.type c, none, .seq its _, _⟩ => decide (c = "tuple") && (decide (its.size ≤ sizeLine) && (!keyT xs && repBs K xs its.toList))
      | _ => false)
    | _ => false)
  | x, u => (match atomV x with
    | some v => He.relB v u
    | none => false)
def repBs (K : PySem.W.Frag) : List IV → List Value → Bool
  | [], [] => true
  | x :: xs, u :: us => repB K x u && repBs K xs us
  | _, _ => false
end
mutual
theorem repB_ok {γ : Gm} : ∀ {x : IV} {u : Value}, repB γ.K x u = true → ∃ v, RelV v u ∧ RepV γ [] (fun _ => none) x v
  | .non, u, h => ⟨.non, He.relB_ok (by simpa [repB, atomV] using h), rfl⟩
  | .bl b, u, h => ⟨.bl b, He.relB_ok (by simpa [repB, atomV] using h), rfl⟩
  | .int i, u, h => ⟨.int i, He.relB_ok (by simpa [repB, atomV] using h), rfl⟩
  | .str i, u, h => ⟨.str i, He.relB_ok (by simpa [repB, atomV] using h), rfl⟩
  | .tup xs, u, h => by
    cases u <;> first | (simp [repB] at h; done) | skip
    rename_i a
    simp only [repB] at h
    split at h
    · rename_i c its n sl look
      simp only [Bool.and_eq_true, decide_eq_true_eq] at h
      obtain ⟨h1, h2, h0, h3⟩ := h
      obtain ⟨vs, v1, v2⟩ := repBs_ok h3
      refine ⟨.ref a, rfl, a, vs, rfl, ?_, v2⟩
      exact ⟨.inr ⟨_, its, n, look, congrArg Value.type h1, rfl, h2, v1⟩, .inr ⟨_, look, rfl⟩, fun z => by rw [z] at h0; cases h0⟩
    · cases h
  | .frz _, u, h => by simp [repB, atomV] at h
  | .ref _, u, h => by simp [repB, atomV] at h
theorem repBs_ok {γ : Gm} : ∀ {xs : List IV} {us : List Value}, repBs γ.K xs us = true → ∃ vs, Vals vs us ∧ RepVs γ [] (fun _ => none) xs vs
  | [], us, h => by
    cases us with
    | nil => exact ⟨[], .nil, rfl⟩
    | cons _ _ => simp [repBs] at h
  | x :: xs, us, h => by
    cases us with
    | nil => simp [repBs] at h
    | cons u us =>
      simp only [repBs, Bool.and_eq_true] at h
      obtain ⟨v, r1, r2⟩ := repB_ok h.1
      obtain ⟨vs, q1, q2⟩ := repBs_ok h.2
      exact ⟨v :: vs, .cons r1 q1, v, vs, rfl, r2, q2⟩
end
/-- the module's name x holds the datum -/
def gloB (K : PySem.W.Frag) (x : Str) (d : IV) : Bool := match PySem.W.nsIn K mainGlobals x with
  | some (some u) => repB K d u
  | _ => false
theorem gloB_ok {γ : Gm} {h : Heap} {mg : Str → Option Value} (X : γ.K.In h) (G : h.Ns mainGlobals mg) {x : Str} {d : IV} (q : gloB γ.K x d = true) : GcOk γ mg x d := by
  unfold gloB at q
  split at q
  · rename_i u look
    obtain ⟨v, r1, r2⟩ := repB_ok (γ := γ) q
    exact ⟨u, v, PySem.W.mg_of X G look, r1, r2⟩
  · cases q

/-! ### the defs of a text -/
/-- what is checked of a def, beside its text -/
structure DefChk (fd : FnDef) (st : Stmt) (sc : Sc) : Prop where
  scope : FnScope fd.N (fd.N.take fd.np) (defScope st)
  np : fd.np ≤ fd.N.length
  n : sc.N = fd.N
  s : sc.scope = defScope st
  r : sc.raw = defScope st
  h : sc.hn = none
  a : sc.actN = none
  chk : chkSs sc fd fd.body (defBody st) = true
  bind : ∀ (kV doc pm : Value) (an : Option Addr) (cdv ct : Value) (us : List Value), us.length = (fd.N.take fd.np).length → bindArgs (PySem.W.fnOf fd.nm fd.nm (defArgs st) (defBody st) (defScope st) .none kV doc pm an cdv ct) ⟨us, []⟩ = pure ((fd.N.take fd.np).zip us)
def defD (fd : FnDef) (st : Stmt) : He.DefD := ⟨(fd.nm, none), fd.nm, fd.nm, defArgs st, defBody st, defScope st, [], []⟩
section
variable {γ : Gm} {P : Program} {w : World} {K : PySem.W.Frag} {mg : Str → Option Value} {base : Heap} {fu : Nat} {cs : CsT} {isN caught : List (Str × Nat)} {fa : List He.Fa} {fn : List He.DefD} {h : Heap} {tf : List He.Defn} {ex : PySem.W.Frag → Bool}
theorem def_ok {D : FnDef → Prop} {Lm : FnDef → LamA → Prop} {Wm : FnDef → List Str → LamA → Addr → Prop} {fd : FnDef} {st : Stmt} {sc : Sc} {fdat : FuncData} (C : DefChk fd st sc) (hK : γ.K = K) (free : ∀ x ∈ bNames, mg x = none) (glo : mg fd.nm = some (.ref (He.ga K fd.nm)))
    (F : FunD K fd.nm fd.nm (defArgs st) (defBody st) (defScope st) [] [] (He.ga K fd.nm) fdat) (ck : ClsOk γ K mg sc.isN sc.isF)
    (cal : ∀ Pd : FnDef → Prop, (∀ d, D d → Pd d) → calSs Pd (GcOk γ mg) (RaiseAny γ P w K mg base) (CatchOk γ K mg) fd fd.body)
    (lams : sc.lamA = [] ∨ ((∀ fdat, L2.Fun K fd.nm fd.nm st (He.ga K fd.nm) fdat → TabFn γ base mg fd.nm fdat) ∧ ∀ n, Snd γ P w K mg base fu n D Lm Wm → LamFn γ P w K mg base fu n sc fd)) :
    At K mg fd (He.ga K fd.nm) fdat ∧ ∀ n, Snd γ P w K mg base fu n D Lm Wm → FnOk P w K mg base (L2.CX P w) (n + 1) (He.ga K fd.nm) fdat (fd.N.take fd.np) (spI γ (callM fu (n + 1)) fd) := by
  have F0 := fun_of F
  refine ⟨⟨glo, F.kp, F.bindsN C.bind⟩, fun n S => ?_⟩
  refine fn_run (sc := sc) hK free F0 C.scope C.np C.n C.s C.r C.h C.a C.chk (fun A room => cal _ fun d hd => S.d d hd A room) ck ?_
  rcases lams with l | ⟨t, l⟩
  · exact .inl l
  · exact .inr ⟨t _ F0, l n S⟩
/-- a def, wherever it lies -/
theorem def_at {D : FnDef → Prop} {Lm : FnDef → LamA → Prop} {Wm : FnDef → List Str → LamA → Addr → Prop} {fd : FnDef} {st : Stmt} (F : ∃ fdat, FunD K fd.nm fd.nm (defArgs st) (defBody st) (defScope st) [] [] (He.ga K fd.nm) fdat)
    (h : ∀ fdat, FunD K fd.nm fd.nm (defArgs st) (defBody st) (defScope st) [] [] (He.ga K fd.nm) fdat → At K mg fd (He.ga K fd.nm) fdat ∧ ∀ n, Snd γ P w K mg base fu n D Lm Wm → FnOk P w K mg base (L2.CX P w) (n + 1) (He.ga K fd.nm) fdat (fd.N.take fd.np) (spI γ (callM fu (n + 1)) fd)) :
    ∃ f fdat, At K mg fd f fdat ∧ ∀ n, Snd γ P w K mg base fu n D Lm Wm → FnOk P w K mg base (L2.CX P w) (n + 1) f fdat (fd.N.take fd.np) (spI γ (callM fu (n + 1)) fd) := F.elim fun fdat f => ⟨_, fdat, h fdat f⟩
/-- the table of a def's code object -/
theorem tab_at {qual : Str} {st : Stmt} {fdat : FuncData} {nm : Nat → Nat → Str} (F : L2.Fun K qual qual st (He.ga K qual) fdat) (tb : TabB base mg (He.cT K (qual, none)).1 (He.cT K (qual, none)).2) (hT : γ.T = [((He.cT K (qual, none)).2, nm)]) (hn : ∀ l k : Nat, nm l k = (envOfC qual default 0 0 .none).qual ++ "<lambda>") : TabFn γ base mg qual fdat := by
  obtain ⟨oc, od, kV, doc, pm, an, cdv, ct, osl, rfl, lk, code⟩ := F.ex
  obtain ⟨c, rfl⟩ := He.codeIn_ref code
  have e := He.codeOf_eq (p := (qual, none)) (c := c) lk rfl
  refine ⟨c, (He.cT K (qual, none)).2, nm, ?_, rfl, by rw [hT]; exact List.mem_singleton.mpr rfl, fun p hp _ => ?_, hn⟩
  · have : (He.cT K (qual, none)).1 = c := e
    rw [this] at tb
    exact tb
  · rw [hT] at hp
    rw [List.mem_singleton.mp hp]
/-- the law's promise -/
theorem promise_of {n N : Nat} {law : FnDef} {cs' : List (Addr × Addr)} (hK : γ.K = K) (np : law.np = 1) (hT : ∀ p ∈ γ.T, ∃ q ∈ cs', q.2 = p.1)
    (holds : ∀ ns : List Int, ns.length ≤ n → (∀ z ∈ ns, Builtin.Int.intBits z ≤ 1048576) → ∃ st, callM fu N law [.frz ns] [] = .ok (.v (.bl true)) st) (H : Hp) (a : Addr) (ns : List Int) (len : ns.length ≤ n) (bits : ∀ z ∈ ns, Builtin.Int.intBits z ≤ 1048576) (tabs : ∀ p ∈ cs', H p.2 = some (.tbl #[])) (S : SqL K H a (ns.map V.int)) :
    thawed (spI γ (callM fu N) law) [.ref a] H (fun v _ => v = .bl true) fun _ _ _ => False := by
  obtain ⟨st, e⟩ := holds ns len bits
  have core : ∀ H', (∀ p ∈ cs', H' p.2 = some (.tbl #[])) → FrzAt K H' a (ns.map V.int) → spI γ (callM fu N) law [.ref a] H' (fun v _ => v = .bl true) fun _ _ _ => False := fun H' tabs' fz => by
    refine ⟨[], [], [.frz ns], ⟨rfl, List.nodup_nil, fun i o q => by simp at q, fun p hp => ?_⟩, ⟨_, _, rfl, ⟨a, rfl, by rw [hK]; exact fz⟩, rfl⟩, by rw [np]; rfl, ?_⟩
    · obtain ⟨q, hq, eq⟩ := hT p hp
      rw [← eq]
      exact TabN.nil (tabs' q hq)
    · rw [e]
      intro ρ' H2 v _ _ T _
      exact T
  rcases S with (z | ⟨o, z⟩) | told
  · refine .inr ⟨a, _, z, fun o => core _ (fun p hp => ?_) (.inl ⟨o, upd_same⟩)⟩
    rw [upd_ne (fun y => by have t := tabs p hp; rw [y, z] at t; cases t)]
    exact tabs p hp
  · exact .inl (core H tabs (.inl ⟨o, z⟩))
  · exact .inl (core H tabs (.inr (.inr told)))
end
end MP

set_option linter.all false
set_option autoImplicit false
set_option Elab.async false
set_option maxRecDepth 100000
set_option maxHeartbeats 2000000
namespace MP
open PySem L2 PySem.Spec PyProof.Rows PySem.W NdefX
/-! ### own exceptions with a value, told of the written part -/
def oexB (K : Frag) (C : Addr) : Bool := (match K.lookup C with
  | some ⟨.type "type", _, .cls cd, sl⟩ => (match cd.mro, sl.toList with
    | .ref C' :: bm, [_, _, _, _, some (.builtin n), _] => C' == C && n == "ValueError.__new__" && !cd.hasDel && cd.hasDict && PySem.HandSPX.refsVE bm
    | _, _ => false)
  | _ => false) && findIn K (.ref C) "__setattr__" == some (some (.builtin "object.__setattr__")) && subIn K (.ref C) (.type "BaseException") == some true && typeIn K (.ref C) == some (.type "type") && keepIn K (.ref C)
theorem oex_of {K : Frag} {C : Addr} (h : oexB K C = true) : OexC K C := by
  unfold oexB at h
  simp only [Bool.and_eq_true, beq_iff_eq] at h
  obtain ⟨⟨⟨⟨h, h2⟩, h3⟩, h4⟩, h5⟩ := h
  refine ⟨?_, h2, h3, h4, h5⟩
  split at h
  · rename_i dd cd sl ho
    split at h
    · rename_i C' bm k0 k1 k2 k3 n k5 hm hs
      simp only [Bool.and_eq_true, beq_iff_eq, Bool.not_eq_true'] at h
      obtain ⟨⟨⟨⟨rfl, rfl⟩, hdel⟩, hdict⟩, hbm⟩ := h
      obtain ⟨nm, bs, mro, ns, qn, hd, sn, sub, ab, col, del⟩ := cd
      dsimp only at hm hdel hdict
      subst hm hdel hdict
      have hsl : sl = #[k0, k1, k2, k3, some (.builtin "ValueError.__new__"), k5] := by
        obtain ⟨l⟩ := sl
        simp only at hs
        rw [hs]
      subst hsl
      exact ⟨nm, qn, ns, bs, bm, sn, sub, ab, col, dd, k0, k1, k2, k3, k5, ho, hbm⟩
    · cases h
  · cases h
/-- the __init__'s own record -/
def initFd (prog : Program) (K : Frag) (C : Addr) (fld : Str) (fd : FuncData) : Bool := match fd.body, fd.closure, fd.code with
  | .stmts [.Expr (.Call (.Attribute (.Call (.Name su p0) [] [] p1) ini p2) [.Name x p3] [] p4) p5, .Assign [.Attribute (.Name sf q1) fl q2] (.Name x2 q3) q4], [(cn, cc)], .ref cda =>
    (match fd.params, fd.defaults, fd.kwdefaults, fd.annotations, K.lookup cda, K.lookup cc with
    | ⟨[], [a0, a1], none, [], [], none, []⟩, .none, .none, none, some ⟨_, _, .fields vs, _⟩, some ⟨_, _, .cell (some (.ref D)), _⟩ =>
      fd.name == "__init__" && fd.globals == mainGlobals && fd.builtins == builtinsNs && su == "super" && ini == "__init__" && x2 == x && fl == fld && cn == "__class__" && a0.arg == sf && a1.arg == x && (p2.endLine == p4.line) &&
      nscB [sf, x, "__class__"] [sf, x] ["__class__"] fd.scope && codeIn K (.ref cda) fd.qualname && (match vs[2]? with | some (Value.str file _) => prog.main.file == file | _ => false) && (clsIn K D).isSome && mroIn K C (.ref D) == some true &&
      ks_superIn K C D "__init__" == some (some (.builtin "ValueError.__init__")) && fd.scope.names.lookup ("super" : Str) == some .globalImplicit && !(sf == ("__debug__" : Str)) && !(sf == ("__classdict__" : Str)) && !(x == ("__debug__" : Str)) && !(x == ("__classdict__" : Str)) && !(sf == x)
    | _, _, _, _, _, _ => false)
  | _, _, _ => false
def initB (prog : Program) (K : Frag) (C : Addr) (fld : Str) : Bool := oexB K C && subIn K (.ref C) (.type "ValueError") == some true && nsIn K cStatics "thirdparty.any" == some none && findIn K (.ref C) fld == some none && !(prog.main.scope.names.lookup ("super" : Str)).isSome &&
  (match findIn K (.ref C) "__init__" with
  | some (some (.ref fI)) => typeIn K (.ref fI) == some (.type "function") && (match K.lookup fI with | some ⟨_, _, .func fd, _⟩ => initFd prog K C fld fd | _ => false)
  | _ => false)
theorem bind_two {fd : FuncData} {a0 a1 : Arg} (hp : fd.params = ⟨[], [a0, a1], none, [], [], none, []⟩) (hdf : fd.defaults = .none) (u v : Value) (hne : (a0.arg == a1.arg) = false) : bindArgs fd ⟨[u, v], []⟩ = pure [(a0.arg, u), (a1.arg, v)] := by
  have h1 : (a1.arg == a0.arg) = false := by
    rw [Bool.eq_false_iff] at hne ⊢
    intro e
    exact hne (by rw [eq_of_beq e]; exact beq_self_eq_true _)
  have e0 : ([(a0.arg, u), (a1.arg, v)] : List (Str × Value)).lookup a0.arg = some u := by simp [List.lookup]
  have e1 : ([(a0.arg, u), (a1.arg, v)] : List (Str × Value)).lookup a1.arg = some v := by simp [List.lookup, h1]
  have e2 : seqItems? (.none : Value) = (pure none : Sem _) := rfl
  unfold bindArgs
  simp [hp, hdf, e0, e1, e2]
theorem binds_two {K : Frag} {fd : FuncData} {a0 a1 : Arg} (hp : fd.params = ⟨[], [a0, a1], none, [], [], none, []⟩) (hdf : fd.defaults = .none) (hne : (a0.arg == a1.arg) = false) : Binds K fd [a0.arg, a1.arg] [] := Binds.all fun us h => by
  rcases us with _ | ⟨u, _ | ⟨v, _ | ⟨w, us⟩⟩⟩
  · cases h
  · cases h
  · exact bind_two hp hdf u v hne
  · simp at h
theorem init_of {prog : Program} {w : World} {K : Frag} {mg : Str → Option Value} {base : Heap} {C fI : Addr} {fld : Str} {fd : FuncData} {oc : Value} {od : Option Addr} {osl : Array (Option Value)} (hi : initFd prog K C fld fd = true) (lk : K.lookup fI = some ⟨oc, od, .func fd, osl⟩) (T : OexC K C) (hfld : findIn K (.ref C) fld = some none)
    (top : (prog.main.scope.names.lookup ("super" : Str)).isSome = false) (hmg : mg "super" = none) (tp : nsIn K cStatics "thirdparty.any" = some none) (sub : subIn K (.ref C) (.type "ValueError") = some true) :
    ∃ sf x, InitRun prog w K mg base fI fd sf x C fld ∧ Binds K fd [sf, x] [] := by
  obtain ⟨name, qual, params, body, scope, gl, cl, dv, kv, doc, pm, an, cdv, ct, bi⟩ := fd
  unfold initFd at hi
  dsimp only at hi
  split at hi
  · rename_i su p0 p1 ini p2 x p3 p4 p5 sf q1 fl q2 x2 q3 q4 cn cc cda
    split at hi
    · rename_i a0 a1 c1 d1 vs s1 c2 d2 D s2 e1 e2
      simp only [Bool.and_eq_true, beq_iff_eq, Bool.not_eq_true'] at hi
      obtain ⟨⟨⟨⟨⟨⟨⟨⟨⟨⟨⟨⟨⟨⟨⟨⟨⟨⟨⟨⟨⟨⟨rfl, rfl⟩, rfl⟩, rfl⟩, rfl⟩, rfl⟩, rfl⟩, rfl⟩, rfl⟩, rfl⟩, hline⟩, hns⟩, hcd⟩, hfile⟩, hcls⟩, hmro⟩, hsup⟩, hks⟩, n1⟩, n2⟩, n3⟩, n4⟩, hne⟩ := hi
      rename K.lookup cda = _ => ka
      rename K.lookup cc = _ => kc
      have S := nscope_by hns
      obtain ⟨tk, file, hv, hf⟩ : ∃ (tk : Tok) (file : Str), vs[2]? = some (.str file tk) ∧ (prog.main.file == file) = true := by
        split at hfile
        · rename_i file tk hv
          exact ⟨tk, file, hv, hfile⟩
        · cases hfile
      obtain ⟨cdD, hcD⟩ := Option.isSome_iff_exists.1 hcls
      refine ⟨a0.arg, a1.arg, init_run (hline := beq_iff_eq.2 hline) lk hcd S T hfld ⟨some (.ref D), fun h kh => ⟨_, kh _ _ kc, rfl⟩⟩ (by rw [kc]; exact fun z => by cases z) (fun A outer s H E => ?_) n1 n2 n4, binds_two rfl rfl hne⟩
      refine ⟨⟨D, fI, cda, cc, cdD, _, a0, vs, file, tk, _, _, _, _, _, _, _, _, _, rfl, lk, rfl, rfl, rfl, ka, hv, hf, rfl, kc, hcD, hmro, hsup⟩, top, hks, S.frk _ (by simp), S.par _ (by simp), S.par _ (by simp), hmg, tp, sub, ?_, n3⟩
      have hk := S.kind
      show (scope.kind == .module && _) = false
      rw [hk]
      rfl
    · cases hi
  · cases hi
theorem raiseV_of {γ : Gm} {P : Program} {w : World} {K : Frag} {mg : Str → Option Value} {base : Heap} {c : Nat} {nm : Str} {C : Addr} {fld : Str} (h : initB P K C fld = true) (hx : γ.xt c = some (C, some fld)) (hm : mg nm = some (.ref C)) (hmg : mg "super" = none) : RaiseVOk γ P w K mg base c nm := by
  unfold initB at h
  simp only [Bool.and_eq_true, beq_iff_eq, Bool.not_eq_true'] at h
  obtain ⟨⟨⟨⟨⟨h1, h2⟩, h3⟩, h4⟩, h5⟩, h6⟩ := h
  split at h6
  · rename_i fI hI
    simp only [Bool.and_eq_true, beq_iff_eq] at h6
    obtain ⟨t1, h6⟩ := h6
    split at h6
    · rename_i hl
      obtain ⟨sf, x, r, b⟩ := init_of (w := w) (mg := mg) (base := base) h6 hl (oex_of h1) h4 h5 hmg h3 h2
      exact ⟨C, fI, _, sf, x, fld, hx, hm, oex_of h1, hI, t1, r, b⟩
    · cases h6
  · cases h6
end MP

set_option linter.all false
set_option autoImplicit false
set_option maxRecDepth 100000
namespace MP
open PySem PySem.W
/-! ### the kit's head hook with the table of the statics among what is told -/
/-- the part of a state -/
abbrev kY (g : Addr → Option Obj) (m : Nat) : Frag := He.frT g (He.asD g m ++ [cStatics])
section
variable (m : Nat) (facts : List He.Fa) (defs : List He.DefD) (tb : List He.Tab) (fr : List He.Defn) (more : Frag → Bool)
def seenY (g : Addr → Option Obj) : He.AlX := (He.obsT facts defs tb (kY g m), more (kY g m) && He.tabsB g fr (kY g m))
theorem saysY {w : World} {h : Heap} (e : seenY m facts defs tb fr more h.get? = He.valX defs tb w) : He.SaysX facts defs tb fr more w h (kY h.get? m) := by
  have e1 : He.obsT facts defs tb (kY h.get? m) = He.valT defs tb w := congrArg Prod.fst e
  have e2 : (more (kY h.get? m) && He.tabsB h.get? fr (kY h.get? m)) = true := congrArg Prod.snd e
  rw [Bool.and_eq_true] at e2
  have each : ∀ p ∈ fr, codeHdIn (kY h.get? m) (He.cT (kY h.get? m) p).1 (He.cT (kY h.get? m) p).2 = true ∧ ∃ o, h.get? (He.cT (kY h.get? m) p).2 = some o ∧ He.emptyTab o = true := fun p hp => by
    have z := List.all_eq_true.mp e2.2 p hp
    rw [Bool.and_eq_true] at z
    refine ⟨z.1, ?_⟩
    have z2 := z.2
    split at z2
    · rename_i o q
      exact ⟨o, q, z2⟩
    · cases z2
  refine ⟨e1, e2.1, fun p hp => (each p hp).1, fun p hp => ?_, fun p hp => ?_⟩
  · obtain ⟨_, o, q, z⟩ := each p hp
    exact He.frT_none q z
  · obtain ⟨_, o, q, z⟩ := each p hp
    rw [q, He.emptyTab_eq z]
def hookY : Hook where
  α := He.AlX
  obs := fun s => seenY m facts defs tb fr more s.heap.get?
  val := fun w => He.valX defs tb w
  says := fun w h => ∃ K : Frag, K.In h ∧ He.SaysX facts defs tb fr more w h K
  of := fun _ _ e => ⟨_, He.frT_in, saysY m facts defs tb fr more e⟩
  keeps := (He.hookX m facts defs tb fr more).keeps
theorem seenY_eq {g : Addr → Option Obj} {s : Shared} (h : ∀ a, g a = s.heap.get? a) : seenY m facts defs tb fr more g = (hookY m facts defs tb fr more).obs s := by
  obtain rfl : g = s.heap.get? := funext h
  rfl
end
end MP

set_option linter.all false
set_option autoImplicit false
set_option Elab.async false
set_option maxRecDepth 100000
namespace MP
open PySem
abbrev LVL : Nat := 40
abbrev FUEL : Nat := 10000
abbrev G_WORDS : IV := .int 65536
abbrev G_REGISTERS : IV := .int 8
abbrev G_WORDS_OF : IV := .tup [.str "idle", .str "set", .str "add", .str "sub", .str "and", .str "less", .str "mul", .str "load", .str "store", .str "zero", .str "go", .str "out"]
abbrev G_SUMS : IV := .tup [.str "add", .str "sub", .str "and", .str "less"]
abbrev G_CELLS : IV := .int 16
abbrev G_MOST_INSTRUCTIONS : IV := .int 60
abbrev G_WRITING : IV := .tup [.str "set", .str "sum", .str "mul", .str "load"]
abbrev G_MOST_PLACE : IV := .int 7
abbrev G_NAMES : IV := .tup [.tup [.str "set", .str "made", .str "written"], .tup [.str "sum", .str "used", .str "made", .str "written"], .tup [.str "mul", .str "used", .str "made", .str "written"], .tup [.str "load", .str "used", .str "fetched", .str "written"], .tup [.str "store", .str "used a", .str "used b", .str "put"], .tup [.str "zero", .str "used", .str "decided"], .tup [.str "go", .str "decided"], .tup [.str "out", .str "used", .str "shown"]]
abbrev G_MOST_APART : IV := .int 7
abbrev G_USERS : IV := .tup [.tup [.str "sum", .str "a"], .tup [.str "mul", .str "a"], .tup [.str "load", .str "a"], .tup [.str "store", .str "a"], .tup [.str "store", .str "b"], .tup [.str "zero", .str "a"], .tup [.str "out", .str "a"]]
abbrev G_EFFECTS : IV := .tup [.str "set", .str "sum", .str "mul", .str "load", .str "store", .str "out"]
abbrev G_KINDS : IV := .tup [.str "idle", .str "set", .str "sum", .str "mul", .str "load", .str "store", .str "zero", .str "go", .str "out"]
abbrev G_MAKERS : IV := .tup [.tup [.str "set", .int 0, .int 3], .tup [.str "add", .int 0, .int 1, .int 1], .tup [.str "mul", .int 0, .int 1, .int 1], .tup [.str "load", .int 0, .int 2, .int 1]]
abbrev G_MAKING : IV := .tup [.str "set", .str "sum", .str "mul", .str "load"]
abbrev G_ELDERS : IV := .tup [.tup [.str "set", .int 0, .int 1], .tup [.str "add", .int 0, .int 3, .int 3], .tup [.str "mul", .int 0, .int 3, .int 3], .tup [.str "load", .int 0, .int 2, .int 5]]
abbrev G_STORE : IV := .tup [.str "store", .int 3, .int 2, .int 0]
abbrev G_LOAD : IV := .tup [.str "load", .int 5, .int 2, .int 0]
abbrev G_OUT : IV := .tup [.str "out", .int 1]
abbrev G_REGISTERS_OF : IV := .tup [.int 0, .int 2, .int 0, .int 5, .int 6, .int 0, .int 0, .int 0]
abbrev G_CELLS_OF : IV := .tup [.int 7, .int 3, .int 9, .int 8, .int 1, .int 2, .int 11, .int 12, .int 13, .int 14, .int 15, .int 16, .int 17, .int 18, .int 19, .int 20]
def B_is_integer : List S := [.ret (.and_ (.isI (.v 0) [.int]) [.not_ (.isI (.v 0) [.bool])])]
def D_is_integer : FnDef := .mk "is_integer" 1 ["value"] B_is_integer []
@[simp] theorem D_is_integer_b : D_is_integer.body = B_is_integer := id rfl
@[simp] theorem D_is_integer_N : D_is_integer.N.length = 1 := id rfl
@[simp] theorem D_is_integer_np : D_is_integer.np = 1 := id rfl
def B_is_in : List S := [.ret (.and_ (.call D_is_integer [.v 0]) [.chain .le .le (.v 1) (.v 0) (.v 2)])]
def D_is_in : FnDef := .mk "is_in" 3 ["value", "least", "most"] B_is_in []
@[simp] theorem D_is_in_b : D_is_in.body = B_is_in := id rfl
@[simp] theorem D_is_in_N : D_is_in.N.length = 3 := id rfl
@[simp] theorem D_is_in_np : D_is_in.np = 3 := id rfl
def B_is_word : List S := [.ret (.call D_is_in [.v 0, .c (.int 0), .bin .sub (.g "WORDS" G_WORDS) (.c (.int 1))])]
def D_is_word : FnDef := .mk "is_word" 1 ["value"] B_is_word []
@[simp] theorem D_is_word_b : D_is_word.body = B_is_word := id rfl
@[simp] theorem D_is_word_N : D_is_word.N.length = 1 := id rfl
@[simp] theorem D_is_word_np : D_is_word.np = 1 := id rfl
def B_need_word : List S := [.ite (.not_ (.call D_is_word [.v 0])) [.raise 2 "BadWord" []] []]
def D_need_word : FnDef := .mk "need_word" 1 ["value"] B_need_word []
@[simp] theorem D_need_word_b : D_need_word.body = B_need_word := id rfl
@[simp] theorem D_need_word_N : D_need_word.N.length = 1 := id rfl
@[simp] theorem D_need_word_np : D_need_word.np = 1 := id rfl
def B_sum_of : List S := [.ret (.bin .mod (.bin .add (.v 0) (.v 1)) (.g "WORDS" G_WORDS))]
def D_sum_of : FnDef := .mk "sum_of" 2 ["one", "other"] B_sum_of []
@[simp] theorem D_sum_of_b : D_sum_of.body = B_sum_of := id rfl
@[simp] theorem D_sum_of_N : D_sum_of.N.length = 2 := id rfl
@[simp] theorem D_sum_of_np : D_sum_of.np = 2 := id rfl
def B_rest_of : List S := [.ret (.bin .mod (.bin .sub (.v 0) (.v 1)) (.g "WORDS" G_WORDS))]
def D_rest_of : FnDef := .mk "rest_of" 2 ["one", "other"] B_rest_of []
@[simp] theorem D_rest_of_b : D_rest_of.body = B_rest_of := id rfl
@[simp] theorem D_rest_of_N : D_rest_of.N.length = 2 := id rfl
@[simp] theorem D_rest_of_np : D_rest_of.np = 2 := id rfl
def B_product_of : List S := [.ret (.bin .mod (.bin .mul (.v 0) (.v 1)) (.g "WORDS" G_WORDS))]
def D_product_of : FnDef := .mk "product_of" 2 ["one", "other"] B_product_of []
@[simp] theorem D_product_of_b : D_product_of.body = B_product_of := id rfl
@[simp] theorem D_product_of_N : D_product_of.N.length = 2 := id rfl
@[simp] theorem D_product_of_np : D_product_of.np = 2 := id rfl
def B_common_of : List S := [.asg (.tup [.v 2, .v 3]) (.tup [.c (.int 0), .c (.int 1)]), .whl (.and_ (.cmp .gt (.v 0) (.c (.int 0))) [.cmp .gt (.v 1) (.c (.int 0))]) [.ite (.and_ (.cmp .eq (.bin .mod (.v 0) (.c (.int 2))) (.c (.int 1))) [.cmp .eq (.bin .mod (.v 1) (.c (.int 2))) (.c (.int 1))]) [.aug 2 .add (.v 3)] [], .asg (.tup [.v 0, .v 1, .v 3]) (.tup [.bin .fdiv (.v 0) (.c (.int 2)), .bin .fdiv (.v 1) (.c (.int 2)), .bin .mul (.c (.int 2)) (.v 3)])], .ret (.v 2)]
def D_common_of : FnDef := .mk "common_of" 2 ["one", "other", "found", "bit"] B_common_of []
@[simp] theorem D_common_of_b : D_common_of.body = B_common_of := id rfl
@[simp] theorem D_common_of_N : D_common_of.N.length = 4 := id rfl
@[simp] theorem D_common_of_np : D_common_of.np = 2 := id rfl
def B_lesser_of : List S := [.ret (.ite (.cmp .lt (.v 0) (.v 1)) (.c (.int 1)) (.c (.int 0)))]
def D_lesser_of : FnDef := .mk "lesser_of" 2 ["one", "other"] B_lesser_of []
@[simp] theorem D_lesser_of_b : D_lesser_of.body = B_lesser_of := id rfl
@[simp] theorem D_lesser_of_N : D_lesser_of.N.length = 2 := id rfl
@[simp] theorem D_lesser_of_np : D_lesser_of.np = 2 := id rfl
def B_word : List S := [.ite (.not_ (.call D_is_integer [.v 0])) [.raise 1 "BadNumber" []] [], .ret (.bin .mod (.v 0) (.g "WORDS" G_WORDS))]
def D_word : FnDef := .mk "word" 1 ["number"] B_word []
@[simp] theorem D_word_b : D_word.body = B_word := id rfl
@[simp] theorem D_word_N : D_word.N.length = 1 := id rfl
@[simp] theorem D_word_np : D_word.np = 1 := id rfl
def B_need_words : List S := [.ex (.call D_need_word [.v 0]), .ex (.call D_need_word [.v 1])]
def D_need_words : FnDef := .mk "need_words" 2 ["one", "other"] B_need_words []
@[simp] theorem D_need_words_b : D_need_words.body = B_need_words := id rfl
@[simp] theorem D_need_words_N : D_need_words.N.length = 2 := id rfl
@[simp] theorem D_need_words_np : D_need_words.np = 2 := id rfl
def B_added : List S := [.ex (.call D_need_words [.v 0, .v 1]), .ret (.call D_sum_of [.v 0, .v 1])]
def D_added : FnDef := .mk "added" 2 ["one", "other"] B_added []
@[simp] theorem D_added_b : D_added.body = B_added := id rfl
@[simp] theorem D_added_N : D_added.N.length = 2 := id rfl
@[simp] theorem D_added_np : D_added.np = 2 := id rfl
def B_less_by : List S := [.ex (.call D_need_words [.v 0, .v 1]), .ret (.call D_rest_of [.v 0, .v 1])]
def D_less_by : FnDef := .mk "less_by" 2 ["one", "other"] B_less_by []
@[simp] theorem D_less_by_b : D_less_by.body = B_less_by := id rfl
@[simp] theorem D_less_by_N : D_less_by.N.length = 2 := id rfl
@[simp] theorem D_less_by_np : D_less_by.np = 2 := id rfl
def B_times : List S := [.ex (.call D_need_words [.v 0, .v 1]), .ret (.call D_product_of [.v 0, .v 1])]
def D_times : FnDef := .mk "times" 2 ["one", "other"] B_times []
@[simp] theorem D_times_b : D_times.body = B_times := id rfl
@[simp] theorem D_times_N : D_times.N.length = 2 := id rfl
@[simp] theorem D_times_np : D_times.np = 2 := id rfl
def B_both_bits : List S := [.ex (.call D_need_words [.v 0, .v 1]), .ret (.call D_common_of [.v 0, .v 1])]
def D_both_bits : FnDef := .mk "both_bits" 2 ["one", "other"] B_both_bits []
@[simp] theorem D_both_bits_b : D_both_bits.body = B_both_bits := id rfl
@[simp] theorem D_both_bits_N : D_both_bits.N.length = 2 := id rfl
@[simp] theorem D_both_bits_np : D_both_bits.np = 2 := id rfl
def B_is_less : List S := [.ex (.call D_need_words [.v 0, .v 1]), .ret (.call D_lesser_of [.v 0, .v 1])]
def D_is_less : FnDef := .mk "is_less" 2 ["one", "other"] B_is_less []
@[simp] theorem D_is_less_b : D_is_less.body = B_is_less := id rfl
@[simp] theorem D_is_less_N : D_is_less.N.length = 2 := id rfl
@[simp] theorem D_is_less_np : D_is_less.np = 2 := id rfl
def B_law_taken : List S := [.ite (.cmp .gt (.idx (.v 0) (.c (.int 3))) (.c (.int 0))) [.asg (.v 2) (.bin .mod (.bi .int [.idx (.v 0) (.c (.int 3))]) (.v 1)), .asg (.idx (.v 0) (.c (.int 3))) (.bin .fdiv (.idx (.v 0) (.c (.int 3))) (.v 1)), .ret (.v 2)] [], .asg (.idx (.v 0) (.c (.int 1))) (.bin .add (.idx (.v 0) (.c (.int 1))) (.c (.int 1))), .ite (.cmp .gt (.idx (.v 0) (.c (.int 1))) (.bi .len [.idx (.v 0) (.c (.int 0))])) [.asg (.idx (.v 0) (.c (.int 2))) (.bin .mod (.bi .int [.bin .add (.bin .mul (.idx (.v 0) (.c (.int 2))) (.c (.int 48271))) (.c (.int 11))]) (.c (.int 2147483647))), .ret (.bin .mod (.bi .int [.bin .fdiv (.idx (.v 0) (.c (.int 2))) (.c (.int 7))]) (.v 1))] [], .asg (.v 3) (.idx (.idx (.v 0) (.c (.int 0))) (.bin .sub (.idx (.v 0) (.c (.int 1))) (.c (.int 1)))), .asg (.idx (.v 0) (.c (.int 2))) (.bin .mod (.bi .int [.bin .add (.bin .add (.bin .mul (.idx (.v 0) (.c (.int 2))) (.c (.int 48271))) (.v 3)) (.c (.int 11))]) (.c (.int 2147483647))), .ite (.cmp .ge (.v 3) (.bin .pow (.c (.int 10)) (.c (.int 18)))) [.asg (.idx (.v 0) (.c (.int 3))) (.bin .fdiv (.v 3) (.v 1))] [], .ret (.bin .mod (.bi .int [.v 3]) (.v 1))]
def D_law_taken : FnDef := .mk "_law_taken" 2 ["_law_row", "_law_many", "_law_found", "_law_cell"] B_law_taken []
@[simp] theorem D_law_taken_b : D_law_taken.body = B_law_taken := id rfl
@[simp] theorem D_law_taken_N : D_law_taken.N.length = 4 := id rfl
@[simp] theorem D_law_taken_np : D_law_taken.np = 2 := id rfl
def B_law_pick : List S := [.ret (.idx (.v 1) (.call D_law_taken [.v 0, .bi .len [.v 1]]))]
def D_law_pick : FnDef := .mk "_law_pick" 2 ["_law_row", "_law_kinds"] B_law_pick []
@[simp] theorem D_law_pick_b : D_law_pick.body = B_law_pick := id rfl
@[simp] theorem D_law_pick_N : D_law_pick.N.length = 2 := id rfl
@[simp] theorem D_law_pick_np : D_law_pick.np = 2 := id rfl
def B_law_alike : List S := [.ite (.isI (.v 1) [.tuple, .list]) [.ite (.or_ (.not_ (.isI (.v 0) [.tuple, .list])) [.cmp .ne (.isI (.v 0) [.list]) (.isI (.v 1) [.list])]) [.ret (.c (.bl false))] [], .ite (.cmp .ne (.bi .len [.v 0]) (.bi .len [.v 1])) [.ret (.c (.bl false))] [], .ret (.cmp .eq (.comp [2] (.v 2) (.rng1 (.bi .len [.v 1])) [.not_ (.self [.idx (.v 0) (.v 2), .idx (.v 1) (.v 2)])] (.v 2)) (.lst []))] [], .ite (.or_ (.isN (.v 1)) [.isI (.v 1) [.str]]) [.ret (.and_ (.cmp .eq (.v 0) (.v 1)) [.cmp .eq (.isI (.v 0) [.str]) (.isI (.v 1) [.str])])] [], .ret (.and_ (.isI (.v 0) [.int]) [.cmp .eq (.isI (.v 0) [.bool]) (.isI (.v 1) [.bool]), .cmp .eq (.v 0) (.v 1)])]
def D_law_alike : FnDef := .mk "_law_alike" 2 ["_law_found", "_law_due", "_law_k"] B_law_alike []
@[simp] theorem D_law_alike_b : D_law_alike.body = B_law_alike := id rfl
@[simp] theorem D_law_alike_N : D_law_alike.N.length = 3 := id rfl
@[simp] theorem D_law_alike_np : D_law_alike.np = 2 := id rfl
def B_law_word : List S := [.ret (.call D_law_pick [.v 0, .lst [.c (.int 0), .c (.int 0), .c (.int 1), .c (.int 2), .c (.int 3), .c (.int 5), .c (.int 65535), .c (.int 40000), .call D_law_taken [.v 0, .c (.int 65536)]]])]
def D_law_word : FnDef := .mk "_law_word" 1 ["_law_row"] B_law_word []
@[simp] theorem D_law_word_b : D_law_word.body = B_law_word := id rfl
@[simp] theorem D_law_word_N : D_law_word.N.length = 1 := id rfl
@[simp] theorem D_law_word_np : D_law_word.np = 1 := id rfl
def B_law_made : List S := [.ite (.cmp .eq (.idx (.v 0) (.c (.int 0))) (.c (.str "set"))) [.ret (.idx (.v 0) (.c (.int 2)))] [], .asg (.tup [.v 2, .v 3]) (.v 1), .ite (.cmp .eq (.idx (.v 0) (.c (.int 0))) (.c (.str "and"))) [.asg (.v 4) (.lst [.c (.int 1), .c (.int 2), .c (.int 4), .c (.int 8), .c (.int 16), .c (.int 32), .c (.int 64), .c (.int 128), .c (.int 256), .c (.int 512), .c (.int 1024), .c (.int 2048), .c (.int 4096), .c (.int 8192), .c (.int 16384), .c (.int 32768)]), .ret (.bi .sum [.comp [5] (.v 5) (.e (.v 4)) [.cmp .eq (.bin .add (.bin .mod (.bi .int [.bin .fdiv (.v 2) (.v 5)]) (.c (.int 2))) (.bin .mod (.bi .int [.bin .fdiv (.v 3) (.v 5)]) (.c (.int 2)))) (.c (.int 2))] (.v 5)])] [], .ite (.cmp .eq (.idx (.v 0) (.c (.int 0))) (.c (.str "less"))) [.ret (.bi .int [.cmp .lt (.v 2) (.v 3)])] [], .asg (.v 6) (.kget (.kdisp [.c (.str "add"), .c (.str "sub"), .c (.str "mul")] [.bin .add (.v 2) (.v 3), .bin .sub (.v 2) (.v 3), .bin .mul (.v 2) (.v 3)]) (.idx (.v 0) (.c (.int 0)))), .ret (.bin .mod (.bi .int [.v 6]) (.c (.int 65536)))]
def D_law_made : FnDef := .mk "_law_made" 2 ["_law_instruction", "_law_words", "_law_one", "_law_other", "_law_bits", "_law_bit", "_law_found"] B_law_made []
@[simp] theorem D_law_made_b : D_law_made.body = B_law_made := id rfl
@[simp] theorem D_law_made_N : D_law_made.N.length = 7 := id rfl
@[simp] theorem D_law_made_np : D_law_made.np = 2 := id rfl
def B_is_list : List S := [.ret (.and_ (.isI (.v 0) [.tuple]) [.chain .le .le (.v 1) (.bi .len [.v 0]) (.v 2)])]
def D_is_list : FnDef := .mk "is_list" 3 ["value", "least", "most"] B_is_list []
@[simp] theorem D_is_list_b : D_is_list.body = B_is_list := id rfl
@[simp] theorem D_is_list_N : D_is_list.N.length = 3 := id rfl
@[simp] theorem D_is_list_np : D_is_list.np = 3 := id rfl
def B_is_register : List S := [.ret (.call D_is_in [.v 0, .c (.int 0), .bin .sub (.g "REGISTERS" G_REGISTERS) (.c (.int 1))])]
def D_is_register : FnDef := .mk "is_register" 1 ["value"] B_is_register []
@[simp] theorem D_is_register_b : D_is_register.body = B_is_register := id rfl
@[simp] theorem D_is_register_N : D_is_register.N.length = 1 := id rfl
@[simp] theorem D_is_register_np : D_is_register.np = 1 := id rfl
def B_is_instruction_up_to : List S := [.ite (.or_ (.not_ (.call D_is_list [.v 0, .c (.int 1), .c (.int 4)])) [.not_ (.isI (.idx (.v 0) (.c (.int 0))) [.str]), .cmp .nin (.idx (.v 0) (.c (.int 0))) (.g "WORDS_OF" G_WORDS_OF)]) [.ret (.c (.bl false))] [], .asg (.tup [.v 2, .v 3]) (.tup [.idx (.v 0) (.c (.int 0)), .sl (.v 0) (.c (.int 1)) (.nob)]), .ite (.cmp .eq (.v 2) (.c (.str "idle"))) [.ret (.cmp .eq (.v 3) (.tup []))] [], .ite (.cmp .eq (.v 2) (.c (.str "set"))) [.ret (.and_ (.cmp .eq (.bi .len [.v 3]) (.c (.int 2))) [.call D_is_register [.idx (.v 3) (.c (.int 0))], .call D_is_word [.idx (.v 3) (.c (.int 1))]])] [], .ite (.or_ (.cmp .inn (.v 2) (.g "SUMS" G_SUMS)) [.cmp .eq (.v 2) (.c (.str "mul"))]) [.ret (.and_ (.cmp .eq (.bi .len [.v 3]) (.c (.int 3))) [.bi .all [.comp [4] (.v 4) (.e (.v 3)) [] (.call D_is_register [.v 4])]])] [], .ite (.cmp .inn (.v 2) (.tup [.c (.str "load"), .c (.str "store")])) [.ret (.and_ (.cmp .eq (.bi .len [.v 3]) (.c (.int 3))) [.call D_is_register [.idx (.v 3) (.c (.int 0))], .call D_is_register [.idx (.v 3) (.c (.int 1))], .call D_is_in [.idx (.v 3) (.c (.int 2)), .c (.int 0), .bin .sub (.g "CELLS" G_CELLS) (.c (.int 1))]])] [], .ite (.cmp .eq (.v 2) (.c (.str "zero"))) [.ret (.and_ (.cmp .eq (.bi .len [.v 3]) (.c (.int 2))) [.call D_is_register [.idx (.v 3) (.c (.int 0))], .call D_is_in [.idx (.v 3) (.c (.int 1)), .c (.int 0), .v 1]])] [], .ite (.cmp .eq (.v 2) (.c (.str "go"))) [.ret (.and_ (.cmp .eq (.bi .len [.v 3]) (.c (.int 1))) [.call D_is_in [.idx (.v 3) (.c (.int 0)), .c (.int 0), .v 1]])] [], .ret (.and_ (.cmp .eq (.bi .len [.v 3]) (.c (.int 1))) [.call D_is_register [.idx (.v 3) (.c (.int 0))]])]
def D_is_instruction_up_to : FnDef := .mk "is_instruction_up_to" 2 ["value", "most", "word", "rest", "one"] B_is_instruction_up_to []
@[simp] theorem D_is_instruction_up_to_b : D_is_instruction_up_to.body = B_is_instruction_up_to := id rfl
@[simp] theorem D_is_instruction_up_to_N : D_is_instruction_up_to.N.length = 5 := id rfl
@[simp] theorem D_is_instruction_up_to_np : D_is_instruction_up_to.np = 2 := id rfl
def B_is_instruction : List S := [.ret (.call D_is_instruction_up_to [.v 0, .g "MOST_INSTRUCTIONS" G_MOST_INSTRUCTIONS])]
def D_is_instruction : FnDef := .mk "is_instruction" 1 ["value"] B_is_instruction []
@[simp] theorem D_is_instruction_b : D_is_instruction.body = B_is_instruction := id rfl
@[simp] theorem D_is_instruction_N : D_is_instruction.N.length = 1 := id rfl
@[simp] theorem D_is_instruction_np : D_is_instruction.np = 1 := id rfl
def B_need_instruction : List S := [.ite (.not_ (.call D_is_instruction [.v 0])) [.raise 4 "BadInstruction" []] []]
def D_need_instruction : FnDef := .mk "need_instruction" 1 ["instruction"] B_need_instruction []
@[simp] theorem D_need_instruction_b : D_need_instruction.body = B_need_instruction := id rfl
@[simp] theorem D_need_instruction_N : D_need_instruction.N.length = 1 := id rfl
@[simp] theorem D_need_instruction_np : D_need_instruction.np = 1 := id rfl
def B_kind_in : List S := [.ret (.ite (.cmp .inn (.idx (.v 0) (.c (.int 0))) (.g "SUMS" G_SUMS)) (.c (.str "sum")) (.idx (.v 0) (.c (.int 0))))]
def D_kind_in : FnDef := .mk "kind_in" 1 ["instruction"] B_kind_in []
@[simp] theorem D_kind_in_b : D_kind_in.body = B_kind_in := id rfl
@[simp] theorem D_kind_in_N : D_kind_in.N.length = 1 := id rfl
@[simp] theorem D_kind_in_np : D_kind_in.np = 1 := id rfl
def B_register_of : List S := [.ret (.ite (.cmp .inn (.call D_kind_in [.v 0]) (.g "WRITING" G_WRITING)) (.idx (.v 0) (.c (.int 1))) (.c (.non)))]
def D_register_of : FnDef := .mk "register_of" 1 ["instruction"] B_register_of []
@[simp] theorem D_register_of_b : D_register_of.body = B_register_of := id rfl
@[simp] theorem D_register_of_N : D_register_of.N.length = 1 := id rfl
@[simp] theorem D_register_of_np : D_register_of.np = 1 := id rfl
def B_uses_of : List S := [.asg (.v 1) (.call D_kind_in [.v 0]), .ite (.cmp .inn (.v 1) (.tup [.c (.str "sum"), .c (.str "mul")])) [.ret (.tup [.tup [.c (.str "a"), .idx (.v 0) (.c (.int 2))], .tup [.c (.str "a"), .idx (.v 0) (.c (.int 3))]])] [], .ite (.cmp .eq (.v 1) (.c (.str "load"))) [.ret (.tup [.tup [.c (.str "a"), .idx (.v 0) (.c (.int 2))]])] [], .ite (.cmp .eq (.v 1) (.c (.str "store"))) [.ret (.tup [.tup [.c (.str "a"), .idx (.v 0) (.c (.int 2))], .tup [.c (.str "b"), .idx (.v 0) (.c (.int 1))]])] [], .ite (.cmp .inn (.v 1) (.tup [.c (.str "zero"), .c (.str "out")])) [.ret (.tup [.tup [.c (.str "a"), .idx (.v 0) (.c (.int 1))]])] [], .ret (.tup [])]
def D_uses_of : FnDef := .mk "uses_of" 1 ["instruction", "kind"] B_uses_of []
@[simp] theorem D_uses_of_b : D_uses_of.body = B_uses_of := id rfl
@[simp] theorem D_uses_of_N : D_uses_of.N.length = 2 := id rfl
@[simp] theorem D_uses_of_np : D_uses_of.np = 1 := id rfl
def B_kind_of : List S := [.ex (.call D_need_instruction [.v 0]), .ret (.call D_kind_in [.v 0])]
def D_kind_of : FnDef := .mk "kind_of" 1 ["instruction"] B_kind_of []
@[simp] theorem D_kind_of_b : D_kind_of.body = B_kind_of := id rfl
@[simp] theorem D_kind_of_N : D_kind_of.N.length = 1 := id rfl
@[simp] theorem D_kind_of_np : D_kind_of.np = 1 := id rfl
def B_written_by : List S := [.ex (.call D_need_instruction [.v 0]), .ret (.call D_register_of [.v 0])]
def D_written_by : FnDef := .mk "written_by" 1 ["instruction"] B_written_by []
@[simp] theorem D_written_by_b : D_written_by.body = B_written_by := id rfl
@[simp] theorem D_written_by_N : D_written_by.N.length = 1 := id rfl
@[simp] theorem D_written_by_np : D_written_by.np = 1 := id rfl
def B_used_by : List S := [.ex (.call D_need_instruction [.v 0]), .ret (.call D_uses_of [.v 0])]
def D_used_by : FnDef := .mk "used_by" 1 ["instruction"] B_used_by []
@[simp] theorem D_used_by_b : D_used_by.body = B_used_by := id rfl
@[simp] theorem D_used_by_N : D_used_by.N.length = 1 := id rfl
@[simp] theorem D_used_by_np : D_used_by.np = 1 := id rfl
def B_law_instruction : List S := [.asg (.tup [.v 2, .v 3, .v 4]) (.tup [.call D_law_taken [.v 0, .c (.int 4)], .call D_law_taken [.v 0, .c (.int 4)], .call D_law_taken [.v 0, .c (.int 4)]]), .asg (.v 5) (.call D_law_taken [.v 0, .c (.int 15)]), .ite (.cmp .lt (.v 5) (.c (.int 4))) [.ret (.tup [.idx (.lst [.c (.str "add"), .c (.str "sub"), .c (.str "and"), .c (.str "less")]) (.v 5), .v 2, .v 3, .v 4])] [], .ite (.cmp .eq (.v 5) (.c (.int 4))) [.ret (.tup [.c (.str "mul"), .v 2, .v 3, .v 4])] [], .ite (.cmp .lt (.v 5) (.c (.int 7))) [.ret (.tup [.c (.str "load"), .v 2, .v 3, .call D_law_taken [.v 0, .c (.int 16)]])] [], .ite (.cmp .lt (.v 5) (.c (.int 9))) [.ret (.tup [.c (.str "store"), .v 4, .v 3, .call D_law_taken [.v 0, .c (.int 3)]])] [], .ite (.cmp .lt (.v 5) (.c (.int 11))) [.ret (.tup [.c (.str "zero"), .v 3, .call D_law_taken [.v 0, .bin .add (.v 1) (.c (.int 1))]])] [], .ite (.cmp .lt (.v 5) (.c (.int 13))) [.ret (.ite (.cmp .eq (.v 5) (.c (.int 11))) (.tup [.c (.str "set"), .v 2, .call D_law_word [.v 0]]) (.tup [.c (.str "go"), .call D_law_taken [.v 0, .bin .add (.v 1) (.c (.int 1))]]))] [], .ret (.ite (.cmp .eq (.v 5) (.c (.int 13))) (.tup [.c (.str "out"), .v 3]) (.tup [.c (.str "idle")]))]
def D_law_instruction : FnDef := .mk "_law_instruction" 2 ["_law_row", "_law_most", "_law_d", "_law_a", "_law_b", "_law_kind_here"] B_law_instruction []
@[simp] theorem D_law_instruction_b : D_law_instruction.body = B_law_instruction := id rfl
@[simp] theorem D_law_instruction_N : D_law_instruction.N.length = 6 := id rfl
@[simp] theorem D_law_instruction_np : D_law_instruction.np = 2 := id rfl
def B_law_kind : List S := [.ret (.ite (.cmp .inn (.idx (.v 0) (.c (.int 0))) (.lst [.c (.str "add"), .c (.str "sub"), .c (.str "and"), .c (.str "less")])) (.c (.str "sum")) (.idx (.v 0) (.c (.int 0))))]
def D_law_kind : FnDef := .mk "_law_kind" 1 ["_law_instruction_here"] B_law_kind []
@[simp] theorem D_law_kind_b : D_law_kind.body = B_law_kind := id rfl
@[simp] theorem D_law_kind_N : D_law_kind.N.length = 1 := id rfl
@[simp] theorem D_law_kind_np : D_law_kind.np = 1 := id rfl
def B_law_writes : List S := [.ret (.ite (.cmp .inn (.call D_law_kind [.v 0]) (.lst [.c (.str "set"), .c (.str "sum"), .c (.str "mul"), .c (.str "load")])) (.idx (.v 0) (.c (.int 1))) (.c (.non)))]
def D_law_writes : FnDef := .mk "_law_writes" 1 ["_law_instruction_here"] B_law_writes []
@[simp] theorem D_law_writes_b : D_law_writes.body = B_law_writes := id rfl
@[simp] theorem D_law_writes_N : D_law_writes.N.length = 1 := id rfl
@[simp] theorem D_law_writes_np : D_law_writes.np = 1 := id rfl
def B_law_uses : List S := [.asg (.v 1) (.call D_law_kind [.v 0]), .ite (.cmp .inn (.v 1) (.lst [.c (.str "sum"), .c (.str "mul")])) [.ret (.lst [.tup [.c (.str "a"), .idx (.v 0) (.c (.int 2))], .tup [.c (.str "a"), .idx (.v 0) (.c (.int 3))]])] [], .ite (.cmp .eq (.v 1) (.c (.str "store"))) [.ret (.lst [.tup [.c (.str "a"), .idx (.v 0) (.c (.int 2))], .tup [.c (.str "b"), .idx (.v 0) (.c (.int 1))]])] [], .ite (.cmp .eq (.v 1) (.c (.str "load"))) [.ret (.lst [.tup [.c (.str "a"), .idx (.v 0) (.c (.int 2))]])] [], .ret (.ite (.cmp .inn (.v 1) (.lst [.c (.str "zero"), .c (.str "out")])) (.lst [.tup [.c (.str "a"), .idx (.v 0) (.c (.int 1))]]) (.lst []))]
def D_law_uses : FnDef := .mk "_law_uses" 1 ["_law_instruction_here", "_law_kind_here"] B_law_uses []
@[simp] theorem D_law_uses_b : D_law_uses.body = B_law_uses := id rfl
@[simp] theorem D_law_uses_N : D_law_uses.N.length = 2 := id rfl
@[simp] theorem D_law_uses_np : D_law_uses.np = 1 := id rfl
def B_is_place : List S := [.ret (.call D_is_in [.v 0, .c (.int 0), .g "MOST_PLACE" G_MOST_PLACE])]
def D_is_place : FnDef := .mk "is_place" 1 ["value"] B_is_place []
@[simp] theorem D_is_place_b : D_is_place.body = B_is_place := id rfl
@[simp] theorem D_is_place_N : D_is_place.N.length = 1 := id rfl
@[simp] theorem D_is_place_np : D_is_place.np = 1 := id rfl
def B_are_places : List S := [.ite (.not_ (.call D_is_list [.v 1, .bi .len [.g "NAMES" G_NAMES], .bi .len [.g "NAMES" G_NAMES]])) [.ret (.c (.bl false))] [], .for_ (.v 2) (.rng1 (.bi .len [.g "NAMES" G_NAMES])) [.asg (.v 3) (.bin .sub (.bi .len [.idx (.g "NAMES" G_NAMES) (.v 2)]) (.c (.int 1))), .ite (.or_ (.not_ (.call D_is_list [.idx (.v 1) (.v 2), .v 3, .v 3])) [.not_ (.bi .all [.comp [4] (.v 4) (.e (.idx (.v 1) (.v 2))) [] (.call D_is_place [.v 4])])]) [.ret (.c (.bl false))] []], .asg (.tup [.v 5, .v 6, .v 7, .v 8, .v 9, .v 10, .v 11, .v 12]) (.v 1), .ite (.not_ (.and_ (.cmp .lt (.v 0) (.idx (.v 5) (.c (.int 1)))) [.cmp .lt (.idx (.v 5) (.c (.int 0))) (.idx (.v 5) (.c (.int 1))), .chain .le .le (.v 0) (.idx (.v 10) (.c (.int 0))) (.idx (.v 10) (.c (.int 1))), .chain .le .le (.v 0) (.idx (.v 12) (.c (.int 0))) (.idx (.v 12) (.c (.int 1)))])) [.ret (.c (.bl false))] [], .ite (.not_ (.bi .all [.comp [4] (.v 4) (.e (.tup [.v 6, .v 7, .v 8])) [] (.chain3 .le .le .lt (.v 0) (.idx (.v 4) (.c (.int 0))) (.idx (.v 4) (.c (.int 1))) (.idx (.v 4) (.c (.int 2))))])) [.ret (.c (.bl false))] [], .ret (.bi .all [.comp [4] (.v 4) (.e (.sl (.v 9) (.nob) (.c (.int 2)))) [] (.chain .le .lt (.v 0) (.v 4) (.idx (.v 9) (.c (.int 2))))])]
def D_are_places : FnDef := .mk "are_places" 2 ["read", "places", "index", "many", "one", "own", "sums", "mul", "load", "store", "zero", "go", "out"] B_are_places []
@[simp] theorem D_are_places_b : D_are_places.body = B_are_places := id rfl
@[simp] theorem D_are_places_N : D_are_places.N.length = 13 := id rfl
@[simp] theorem D_are_places_np : D_are_places.np = 2 := id rfl
def B_is_path : List S := [.ret (.and_ (.call D_is_list [.v 0, .c (.int 2), .c (.int 2)]) [.call D_is_place [.idx (.v 0) (.c (.int 0))], .call D_is_place [.idx (.v 0) (.c (.int 1))], .cmp .lt (.idx (.v 0) (.c (.int 1))) (.idx (.v 0) (.c (.int 0)))])]
def D_is_path : FnDef := .mk "is_path" 1 ["value"] B_is_path []
@[simp] theorem D_is_path_b : D_is_path.body = B_is_path := id rfl
@[simp] theorem D_is_path_N : D_is_path.N.length = 1 := id rfl
@[simp] theorem D_is_path_np : D_is_path.np = 1 := id rfl
def B_rises : List S := [.ret (.bi .all [.comp [1] (.v 1) (.rng2 (.c (.int 1)) (.bi .len [.v 0])) [] (.cmp .lt (.idx (.v 0) (.bin .sub (.v 1) (.c (.int 1)))) (.idx (.v 0) (.v 1)))])]
def D_rises : FnDef := .mk "rises" 1 ["some", "index"] B_rises []
@[simp] theorem D_rises_b : D_rises.body = B_rises := id rfl
@[simp] theorem D_rises_N : D_rises.N.length = 2 := id rfl
@[simp] theorem D_rises_np : D_rises.np = 1 := id rfl
def B_are_paths : List S := [.ret (.and_ (.isI (.v 0) [.tuple]) [.bi .all [.comp [1] (.v 1) (.e (.v 0)) [] (.call D_is_path [.v 1])], .call D_rises [.v 0]])]
def D_are_paths : FnDef := .mk "are_paths" 1 ["value", "one"] B_are_paths []
@[simp] theorem D_are_paths_b : D_are_paths.body = B_are_paths := id rfl
@[simp] theorem D_are_paths_N : D_are_paths.N.length = 2 := id rfl
@[simp] theorem D_are_paths_np : D_are_paths.np = 1 := id rfl
def B_is_entry_in : List S := [.ite (.or_ (.not_ (.call D_is_list [.v 0, .c (.int 4), .c (.int 5)])) [.not_ (.bi .all [.comp [1] (.v 1) (.e (.sl (.v 0) (.nob) (.neg (.c (.int 1))))) [] (.isI (.v 1) [.str])])]) [.ret (.c (.bl false))] [], .ite (.not_ (.call D_is_in [.idx (.v 0) (.neg (.c (.int 1))), .c (.int 1), .g "MOST_APART" G_MOST_APART])) [.ret (.c (.bl false))] [], .asg (.tup [.v 2, .v 3, .v 4]) (.sl (.v 0) (.nob) (.c (.int 3))), .ite (.cmp .eq (.bi .len [.v 0]) (.c (.int 5))) [.ret (.and_ (.cmp .eq (.v 2) (.c (.str "value"))) [.cmp .inn (.v 3) (.g "WRITING" G_WRITING), .cmp .inn (.tup [.v 4, .idx (.v 0) (.c (.int 3))]) (.g "USERS" G_USERS)])] [], .ite (.cmp .eq (.v 2) (.c (.str "order"))) [.ret (.and_ (.cmp .inn (.v 3) (.g "WRITING" G_WRITING)) [.cmp .inn (.v 4) (.g "WRITING" G_WRITING)])] [], .ite (.cmp .eq (.v 2) (.c (.str "memory"))) [.ret (.cmp .inn (.tup [.v 3, .v 4]) (.tup [.tup [.c (.str "store"), .c (.str "load")], .tup [.c (.str "load"), .c (.str "store")]]))] [], .ret (.and_ (.cmp .eq (.v 2) (.c (.str "wrong"))) [.cmp .inn (.v 3) (.tup [.c (.str "zero"), .c (.str "go")]), .cmp .inn (.v 4) (.g "EFFECTS" G_EFFECTS)])]
def D_is_entry_in : FnDef := .mk "is_entry_in" 1 ["value", "one", "rule", "first", "second"] B_is_entry_in []
@[simp] theorem D_is_entry_in_b : D_is_entry_in.body = B_is_entry_in := id rfl
@[simp] theorem D_is_entry_in_N : D_is_entry_in.N.length = 5 := id rfl
@[simp] theorem D_is_entry_in_np : D_is_entry_in.np = 1 := id rfl
def B_are_waits : List S := [.ret (.and_ (.isI (.v 0) [.tuple]) [.bi .all [.comp [1] (.v 1) (.e (.v 0)) [] (.call D_is_entry_in [.v 1])], .call D_rises [.v 0]])]
def D_are_waits : FnDef := .mk "are_waits" 1 ["value", "one"] B_are_waits []
@[simp] theorem D_are_waits_b : D_are_waits.body = B_are_waits := id rfl
@[simp] theorem D_are_waits_N : D_are_waits.N.length = 2 := id rfl
@[simp] theorem D_are_waits_np : D_are_waits.np = 1 := id rfl
def B_is_design : List S := [.ite (.or_ (.not_ (.call D_is_list [.v 0, .c (.int 5), .c (.int 5)])) [.not_ (.call D_is_place [.idx (.v 0) (.c (.int 0))]), .not_ (.isI (.idx (.v 0) (.c (.int 1))) [.bool])]) [.ret (.c (.bl false))] [], .ret (.and_ (.call D_are_places [.idx (.v 0) (.c (.int 0)), .idx (.v 0) (.c (.int 2))]) [.call D_are_paths [.idx (.v 0) (.c (.int 3))], .call D_are_waits [.idx (.v 0) (.c (.int 4))]])]
def D_is_design : FnDef := .mk "is_design" 1 ["value"] B_is_design []
@[simp] theorem D_is_design_b : D_is_design.body = B_is_design := id rfl
@[simp] theorem D_is_design_N : D_is_design.N.length = 1 := id rfl
@[simp] theorem D_is_design_np : D_is_design.np = 1 := id rfl
def B_need_design : List S := [.ite (.not_ (.call D_is_design [.v 0])) [.raise 9 "BadDesign" []] []]
def D_need_design : FnDef := .mk "need_design" 1 ["design"] B_need_design []
@[simp] theorem D_need_design_b : D_need_design.body = B_need_design := id rfl
@[simp] theorem D_need_design_N : D_need_design.N.length = 1 := id rfl
@[simp] theorem D_need_design_np : D_need_design.np = 1 := id rfl
def B_place_in : List S := [.ite (.and_ (.cmp .eq (.v 1) (.c (.str "load"))) [.cmp .eq (.v 2) (.c (.str "made"))]) [.asg (.v 2) (.c (.str "fetched"))] [], .for_ (.v 3) (.rng1 (.bi .len [.g "NAMES" G_NAMES])) [.ite (.and_ (.cmp .eq (.idx (.idx (.g "NAMES" G_NAMES) (.v 3)) (.c (.int 0))) (.v 1)) [.cmp .inn (.v 2) (.sl (.idx (.g "NAMES" G_NAMES) (.v 3)) (.c (.int 1)) (.nob))]) [.ret (.idx (.idx (.idx (.v 0) (.c (.int 2))) (.v 3)) (.bin .sub (.ixT "NAMES" G_NAMES (.v 3) (.v 2)) (.c (.int 1))))] []], .ret (.c (.non))]
def D_place_in : FnDef := .mk "place_in" 3 ["design", "kind", "what", "index"] B_place_in []
@[simp] theorem D_place_in_b : D_place_in.body = B_place_in := id rfl
@[simp] theorem D_place_in_N : D_place_in.N.length = 4 := id rfl
@[simp] theorem D_place_in_np : D_place_in.np = 3 := id rfl
def B_effect_in : List S := [.ite (.cmp .inn (.v 1) (.g "WRITING" G_WRITING)) [.ret (.call D_place_in [.v 0, .v 1, .c (.str "written")])] [], .ite (.cmp .eq (.v 1) (.c (.str "store"))) [.ret (.call D_place_in [.v 0, .v 1, .c (.str "put")])] [], .ret (.ite (.cmp .eq (.v 1) (.c (.str "out"))) (.call D_place_in [.v 0, .v 1, .c (.str "shown")]) (.c (.non)))]
def D_effect_in : FnDef := .mk "effect_in" 2 ["design", "kind"] B_effect_in []
@[simp] theorem D_effect_in_b : D_effect_in.body = B_effect_in := id rfl
@[simp] theorem D_effect_in_N : D_effect_in.N.length = 2 := id rfl
@[simp] theorem D_effect_in_np : D_effect_in.np = 2 := id rfl
def B_last_in : List S := [.ite (.cmp .inn (.v 1) (.tup [.c (.str "zero"), .c (.str "go")])) [.ret (.call D_place_in [.v 0, .v 1, .c (.str "decided")])] [], .ret (.ite (.cmp .eq (.v 1) (.c (.str "idle"))) (.c (.int 0)) (.call D_effect_in [.v 0, .v 1]))]
def D_last_in : FnDef := .mk "last_in" 2 ["design", "kind"] B_last_in []
@[simp] theorem D_last_in_b : D_last_in.body = B_last_in := id rfl
@[simp] theorem D_last_in_N : D_last_in.N.length = 2 := id rfl
@[simp] theorem D_last_in_np : D_last_in.np = 2 := id rfl
def B_need_kind : List S := [.ite (.or_ (.not_ (.isI (.v 0) [.str])) [.cmp .nin (.v 0) (.g "KINDS" G_KINDS)]) [.raise 11 "BadKind" []] []]
def D_need_kind : FnDef := .mk "need_kind" 1 ["kind"] B_need_kind []
@[simp] theorem D_need_kind_b : D_need_kind.body = B_need_kind := id rfl
@[simp] theorem D_need_kind_N : D_need_kind.N.length = 1 := id rfl
@[simp] theorem D_need_kind_np : D_need_kind.np = 1 := id rfl
def B_place_of : List S := [.ex (.call D_need_design [.v 0]), .ex (.call D_need_kind [.v 1]), .asg (.v 3) (.ite (.isI (.v 2) [.str]) (.call D_place_in [.v 0, .v 1, .v 2]) (.c (.non))), .ite (.isN (.v 3)) [.raise 11 "BadKind" []] [], .ret (.v 3)]
def D_place_of : FnDef := .mk "place_of" 3 ["design", "kind", "what", "found"] B_place_of []
@[simp] theorem D_place_of_b : D_place_of.body = B_place_of := id rfl
@[simp] theorem D_place_of_N : D_place_of.N.length = 4 := id rfl
@[simp] theorem D_place_of_np : D_place_of.np = 3 := id rfl
def B_effect_place : List S := [.ex (.call D_need_design [.v 0]), .ex (.call D_need_kind [.v 1]), .ret (.call D_effect_in [.v 0, .v 1])]
def D_effect_place : FnDef := .mk "effect_place" 2 ["design", "kind"] B_effect_place []
@[simp] theorem D_effect_place_b : D_effect_place.body = B_effect_place := id rfl
@[simp] theorem D_effect_place_N : D_effect_place.N.length = 2 := id rfl
@[simp] theorem D_effect_place_np : D_effect_place.np = 2 := id rfl
def B_last_place : List S := [.ex (.call D_need_design [.v 0]), .ex (.call D_need_kind [.v 1]), .ret (.call D_last_in [.v 0, .v 1])]
def D_last_place : FnDef := .mk "last_place" 2 ["design", "kind"] B_last_place []
@[simp] theorem D_last_place_b : D_last_place.body = B_last_place := id rfl
@[simp] theorem D_last_place_N : D_last_place.N.length = 2 := id rfl
@[simp] theorem D_last_place_np : D_last_place.np = 2 := id rfl
def B_law_up : List S := [.ret (.bi .min2 [.v 2, .bin .add (.v 1) (.call D_law_taken [.v 0, .c (.int 3)])])]
def D_law_up : FnDef := .mk "_law_up" 3 ["_law_row", "_law_least", "_law_most"] B_law_up []
@[simp] theorem D_law_up_b : D_law_up.body = B_law_up := id rfl
@[simp] theorem D_law_up_N : D_law_up.N.length = 3 := id rfl
@[simp] theorem D_law_up_np : D_law_up.np = 3 := id rfl
def B_law_design : List S := [.asg (.v 1) (.call D_law_taken [.v 0, .c (.int 3)]), .asg (.v 2) (.call D_law_taken [.v 0, .c (.int 3)]), .asg (.v 3) (.lst [.tup [.v 2, .call D_law_up [.v 0, .bin .add (.bi .max2 [.v 2, .v 1]) (.c (.int 1)), .c (.int 7)]]]), .for_ (.v 4) (.e (.lst [.c (.str "sum"), .c (.str "mul"), .c (.str "load")])) [.asg (.v 5) (.call D_law_up [.v 0, .v 1, .c (.int 5)]), .asg (.v 2) (.call D_law_up [.v 0, .v 5, .c (.int 6)]), .ex (.bm .append (.v 3) [.tup [.v 5, .v 2, .call D_law_up [.v 0, .bin .add (.v 2) (.c (.int 1)), .c (.int 7)]]])], .asg (.tup [.v 6, .v 7]) (.tup [.call D_law_up [.v 0, .v 1, .c (.int 5)], .call D_law_up [.v 0, .v 1, .c (.int 5)]]), .ex (.bm .append (.v 3) [.tup [.v 6, .v 7, .call D_law_up [.v 0, .bin .add (.bi .max2 [.v 6, .v 7]) (.c (.int 1)), .c (.int 7)]]]), .asg (.v 5) (.call D_law_up [.v 0, .v 1, .c (.int 5)]), .ex (.bm .append (.v 3) [.tup [.v 5, .call D_law_up [.v 0, .v 5, .c (.int 7)]]]), .ex (.bm .append (.v 3) [.tup [.call D_law_taken [.v 0, .c (.int 4)]]]), .asg (.v 5) (.call D_law_up [.v 0, .v 1, .c (.int 5)]), .ex (.bm .append (.v 3) [.tup [.v 5, .call D_law_up [.v 0, .v 5, .c (.int 7)]]]), .asg (.v 8) (.dnew), .for_ (.v 9) (.rng1 (.call D_law_taken [.v 0, .c (.int 10)])) [.asg (.v 10) (.call D_law_taken [.v 0, .c (.int 5)]), .dput (.v 8) [.bin .add (.bin .add (.v 10) (.c (.int 1))) (.call D_law_taken [.v 0, .bin .sub (.c (.int 7)) (.v 10)]), .v 10] (.c (.bl true))], .ret (.tup [.v 1, .cmp .eq (.call D_law_taken [.v 0, .c (.int 2)]) (.c (.int 0)), .bi .tuple [.v 3], .bi .tuple [.dsort (.v 8)], .tup []])]
def D_law_design : FnDef := .mk "_law_design" 1 ["_law_row", "_law_read", "_law_made", "_law_places_here", "_law_kind", "_law_used", "_law_one", "_law_other", "_law_paths", "_law_turn", "_law_to"] B_law_design []
@[simp] theorem D_law_design_b : D_law_design.body = B_law_design := id rfl
@[simp] theorem D_law_design_N : D_law_design.N.length = 11 := id rfl
@[simp] theorem D_law_design_np : D_law_design.np = 1 := id rfl
def B_law_places : List S := [.asg (.v 1) (.lst [.tup [.c (.str "set"), .c (.str "made"), .c (.str "written")], .tup [.c (.str "sum"), .c (.str "used"), .c (.str "made"), .c (.str "written")], .tup [.c (.str "mul"), .c (.str "used"), .c (.str "made"), .c (.str "written")]]), .asg (.v 1) (.bin .add (.v 1) (.lst [.tup [.c (.str "load"), .c (.str "used"), .c (.str "made"), .c (.str "written")], .tup [.c (.str "store"), .c (.str "used a"), .c (.str "used b"), .c (.str "put")], .tup [.c (.str "zero"), .c (.str "used"), .c (.str "decided")]])), .asg (.v 1) (.bin .add (.v 1) (.lst [.tup [.c (.str "go"), .c (.str "decided")], .tup [.c (.str "out"), .c (.str "used"), .c (.str "shown")]])), .asg (.v 2) (.dnew), .for_ (.v 3) (.rng1 (.c (.int 8))) [.for_ (.v 4) (.rng1 (.bi .len [.idx (.idx (.v 0) (.c (.int 2))) (.v 3)])) [.dput (.v 2) [.idx (.idx (.v 1) (.v 3)) (.c (.int 0)), .idx (.idx (.v 1) (.v 3)) (.bin .add (.v 4) (.c (.int 1)))] (.idx (.idx (.idx (.v 0) (.c (.int 2))) (.v 3)) (.v 4))]], .ret (.v 2)]
def D_law_places : FnDef := .mk "_law_places" 1 ["_law_design_here", "_law_names", "_law_found", "_law_k", "_law_j"] B_law_places []
@[simp] theorem D_law_places_b : D_law_places.body = B_law_places := id rfl
@[simp] theorem D_law_places_N : D_law_places.N.length = 5 := id rfl
@[simp] theorem D_law_places_np : D_law_places.np = 1 := id rfl
def B_law_last : List S := [.for_ (.v 2) (.e (.lst [.c (.str "written"), .c (.str "put"), .c (.str "decided"), .c (.str "shown")])) [.ite (.din true [.v 1, .v 2] (.v 0)) [.ret (.dget (.v 0) [.v 1, .v 2])] []], .ret (.c (.int 0))]
def D_law_last : FnDef := .mk "_law_last" 2 ["_law_spots", "_law_kind", "_law_what"] B_law_last []
@[simp] theorem D_law_last_b : D_law_last.body = B_law_last := id rfl
@[simp] theorem D_law_last_N : D_law_last.N.length = 3 := id rfl
@[simp] theorem D_law_last_np : D_law_last.np = 2 := id rfl
def B_is_entry : List S := [.ret (.call D_is_entry_in [.v 0])]
def D_is_entry : FnDef := .mk "is_entry" 1 ["value"] B_is_entry []
@[simp] theorem D_is_entry_b : D_is_entry.body = B_is_entry := id rfl
@[simp] theorem D_is_entry_N : D_is_entry.N.length = 1 := id rfl
@[simp] theorem D_is_entry_np : D_is_entry.np = 1 := id rfl
def B_need_entry : List S := [.ite (.not_ (.call D_is_entry_in [.v 0])) [.raise 10 "BadEntry" []] []]
def D_need_entry : FnDef := .mk "need_entry" 1 ["entry"] B_need_entry []
@[simp] theorem D_need_entry_b : D_need_entry.body = B_need_entry := id rfl
@[simp] theorem D_need_entry_N : D_need_entry.N.length = 1 := id rfl
@[simp] theorem D_need_entry_np : D_need_entry.np = 1 := id rfl
def B_used_in : List S := [.ret (.call D_place_in [.v 0, .v 1, .ite (.cmp .eq (.v 1) (.c (.str "store"))) (.bin .add (.c (.str "used ")) (.v 2)) (.c (.str "used"))])]
def D_used_in : FnDef := .mk "used_in" 3 ["design", "kind", "role"] B_used_in []
@[simp] theorem D_used_in_b : D_used_in.body = B_used_in := id rfl
@[simp] theorem D_used_in_N : D_used_in.N.length = 3 := id rfl
@[simp] theorem D_used_in_np : D_used_in.np = 3 := id rfl
def B_entries_apart : List S := [.asg (.v 1) (.comp2 [2, 3, 4] [3, 4] (.v 2) (.e (.g "WRITING" G_WRITING)) [] (.tup [.v 3, .v 4]) (.e (.g "USERS" G_USERS)) [] (.tup [.c (.str "value"), .v 2, .v 3, .v 4, .v 0])), .ex (.bm .extend (.v 1) [.comp2 [2, 3] [3] (.v 2) (.e (.g "WRITING" G_WRITING)) [] (.v 3) (.e (.g "WRITING" G_WRITING)) [] (.tup [.c (.str "order"), .v 2, .v 3, .v 0])]), .ex (.bm .extend (.v 1) [.lst [.tup [.c (.str "memory"), .c (.str "store"), .c (.str "load"), .v 0], .tup [.c (.str "memory"), .c (.str "load"), .c (.str "store"), .v 0]]]), .ex (.bm .extend (.v 1) [.comp2 [2, 3] [3] (.v 2) (.e (.tup [.c (.str "zero"), .c (.str "go")])) [] (.v 3) (.e (.g "EFFECTS" G_EFFECTS)) [] (.tup [.c (.str "wrong"), .v 2, .v 3, .v 0])]), .ret (.v 1)]
def D_entries_apart : FnDef := .mk "entries_apart" 1 ["apart", "found", "first", "second", "role"] B_entries_apart []
@[simp] theorem D_entries_apart_b : D_entries_apart.body = B_entries_apart := id rfl
@[simp] theorem D_entries_apart_N : D_entries_apart.N.length = 5 := id rfl
@[simp] theorem D_entries_apart_np : D_entries_apart.np = 1 := id rfl
def B_every_entry : List S := [.ret (.sortT (.comp2 [0, 1] [1] (.v 0) (.rng2 (.c (.int 1)) (.bin .add (.g "MOST_APART" G_MOST_APART) (.c (.int 1)))) [] (.v 1) (.e (.call D_entries_apart [.v 0])) [] (.v 1)))]
def D_every_entry : FnDef := .mk "every_entry" 0 ["apart", "entry"] B_every_entry []
@[simp] theorem D_every_entry_b : D_every_entry.body = B_every_entry := id rfl
@[simp] theorem D_every_entry_N : D_every_entry.N.length = 2 := id rfl
@[simp] theorem D_every_entry_np : D_every_entry.np = 0 := id rfl
def B_all_entries : List S := [.ret (.bi .tuple [.call D_every_entry []])]
def D_all_entries : FnDef := .mk "all_entries" 0 [] B_all_entries []
@[simp] theorem D_all_entries_b : D_all_entries.body = B_all_entries := id rfl
@[simp] theorem D_all_entries_N : D_all_entries.N.length = 0 := id rfl
@[simp] theorem D_all_entries_np : D_all_entries.np = 0 := id rfl
def B_value_open : List S := [.asg (.tup [.v 2, .v 3, .v 4, .v 5, .v 6]) (.v 1), .asg (.tup [.v 7, .v 8]) (.tup [.call D_place_in [.v 0, .v 3, .c (.str "written")], .call D_place_in [.v 0, .v 3, .c (.str "made")]]), .asg (.v 9) (.call D_used_in [.v 0, .v 4, .v 5]), .ite (.or_ (.cmp .gt (.bin .add (.idx (.v 0) (.c (.int 0))) (.v 6)) (.v 7)) [.and_ (.idx (.v 0) (.c (.int 1))) [.cmp .eq (.bin .add (.idx (.v 0) (.c (.int 0))) (.v 6)) (.v 7)]]) [.ret (.c (.bl false))] [], .ret (.or_ (.cmp .nin (.tup [.bin .add (.v 9) (.v 6), .v 9]) (.idx (.v 0) (.c (.int 3)))) [.cmp .le (.bin .add (.v 9) (.v 6)) (.v 8)])]
def D_value_open : FnDef := .mk "value_open" 2 ["design", "entry", "rule", "first", "second", "role", "apart", "written", "made", "used"] B_value_open []
@[simp] theorem D_value_open_b : D_value_open.body = B_value_open := id rfl
@[simp] theorem D_value_open_N : D_value_open.N.length = 10 := id rfl
@[simp] theorem D_value_open_np : D_value_open.np = 2 := id rfl
def B_open_in : List S := [.asg (.tup [.v 2, .v 3, .v 4, .v 5]) (.tup [.idx (.v 1) (.c (.int 0)), .idx (.v 1) (.c (.int 1)), .idx (.v 1) (.c (.int 2)), .idx (.v 1) (.neg (.c (.int 1)))]), .ite (.cmp .eq (.v 2) (.c (.str "value"))) [.ret (.call D_value_open [.v 0, .v 1])] [], .ite (.cmp .eq (.v 2) (.c (.str "order"))) [.ret (.cmp .lt (.bin .add (.v 5) (.call D_place_in [.v 0, .v 4, .c (.str "written")])) (.call D_place_in [.v 0, .v 3, .c (.str "written")]))] [], .asg (.tup [.v 6, .v 7]) (.tup [.call D_place_in [.v 0, .c (.str "load"), .c (.str "fetched")], .call D_place_in [.v 0, .c (.str "store"), .c (.str "put")]]), .ite (.and_ (.cmp .eq (.v 2) (.c (.str "memory"))) [.cmp .eq (.v 3) (.c (.str "store"))]) [.ret (.not_ (.or_ (.cmp .gt (.bin .add (.v 6) (.v 5)) (.v 7)) [.and_ (.idx (.v 0) (.c (.int 1))) [.cmp .eq (.bin .add (.v 6) (.v 5)) (.v 7)]]))] [], .ite (.cmp .eq (.v 2) (.c (.str "memory"))) [.ret (.or_ (.cmp .lt (.bin .add (.v 5) (.v 7)) (.v 6)) [.and_ (.idx (.v 0) (.c (.int 1))) [.cmp .eq (.bin .add (.v 5) (.v 7)) (.v 6)]])] [], .ret (.cmp .le (.bin .add (.v 5) (.call D_effect_in [.v 0, .v 4])) (.call D_place_in [.v 0, .v 3, .c (.str "decided")]))]
def D_open_in : FnDef := .mk "open_in" 2 ["design", "entry", "rule", "first", "second", "apart", "fetched", "put"] B_open_in []
@[simp] theorem D_open_in_b : D_open_in.body = B_open_in := id rfl
@[simp] theorem D_open_in_N : D_open_in.N.length = 8 := id rfl
@[simp] theorem D_open_in_np : D_open_in.np = 2 := id rfl
def B_opens_in : List S := [.ret (.comp [1] (.v 1) (.e (.call D_every_entry [])) [.call D_open_in [.v 0, .v 1]] (.v 1))]
def D_opens_in : FnDef := .mk "opens_in" 1 ["design", "entry"] B_opens_in []
@[simp] theorem D_opens_in_b : D_opens_in.body = B_opens_in := id rfl
@[simp] theorem D_opens_in_N : D_opens_in.N.length = 2 := id rfl
@[simp] theorem D_opens_in_np : D_opens_in.np = 1 := id rfl
def B_by_memory : List S := [.ite (.cmp .ne (.sl (.v 0) (.nob) (.c (.int 3))) (.tup [.c (.str "value"), .c (.str "load"), .c (.str "store")])) [.ret (.c (.bl false))] [], .ret (.cmp .inn (.tup [.c (.str "memory"), .c (.str "load"), .c (.str "store"), .idx (.v 0) (.neg (.c (.int 1)))]) (.v 1))]
def D_by_memory : FnDef := .mk "by_memory" 2 ["entry", "entries"] B_by_memory []
@[simp] theorem D_by_memory_b : D_by_memory.body = B_by_memory := id rfl
@[simp] theorem D_by_memory_N : D_by_memory.N.length = 2 := id rfl
@[simp] theorem D_by_memory_np : D_by_memory.np = 2 := id rfl
def B_missing_in : List S := [.ret (.comp [1] (.v 1) (.e (.call D_opens_in [.v 0])) [.and_ (.cmp .nin (.v 1) (.idx (.v 0) (.c (.int 4)))) [.not_ (.call D_by_memory [.v 1, .idx (.v 0) (.c (.int 4))])]] (.v 1))]
def D_missing_in : FnDef := .mk "missing_in" 1 ["design", "one"] B_missing_in []
@[simp] theorem D_missing_in_b : D_missing_in.body = B_missing_in := id rfl
@[simp] theorem D_missing_in_N : D_missing_in.N.length = 2 := id rfl
@[simp] theorem D_missing_in_np : D_missing_in.np = 1 := id rfl
def B_is_open : List S := [.ex (.call D_need_design [.v 0]), .ex (.call D_need_entry [.v 1]), .ret (.call D_open_in [.v 0, .v 1])]
def D_is_open : FnDef := .mk "is_open" 2 ["design", "entry"] B_is_open []
@[simp] theorem D_is_open_b : D_is_open.body = B_is_open := id rfl
@[simp] theorem D_is_open_N : D_is_open.N.length = 2 := id rfl
@[simp] theorem D_is_open_np : D_is_open.np = 2 := id rfl
def B_open_entries : List S := [.ex (.call D_need_design [.v 0]), .ret (.bi .tuple [.call D_opens_in [.v 0]])]
def D_open_entries : FnDef := .mk "open_entries" 1 ["design"] B_open_entries []
@[simp] theorem D_open_entries_b : D_open_entries.body = B_open_entries := id rfl
@[simp] theorem D_open_entries_N : D_open_entries.N.length = 1 := id rfl
@[simp] theorem D_open_entries_np : D_open_entries.np = 1 := id rfl
def B_is_right : List S := [.ex (.call D_need_design [.v 0]), .ret (.cmp .eq (.call D_missing_in [.v 0]) (.lst []))]
def D_is_right : FnDef := .mk "is_right" 1 ["design"] B_is_right []
@[simp] theorem D_is_right_b : D_is_right.body = B_is_right := id rfl
@[simp] theorem D_is_right_N : D_is_right.N.length = 1 := id rfl
@[simp] theorem D_is_right_np : D_is_right.np = 1 := id rfl
def B_least_waits : List S := [.ex (.call D_need_design [.v 0]), .asg (.v 1) (.call D_opens_in [.v 0]), .ret (.bi .tuple [.comp [2] (.v 2) (.e (.v 1)) [.not_ (.call D_by_memory [.v 2, .v 1])] (.v 2)])]
def D_least_waits : FnDef := .mk "least_waits" 1 ["design", "some", "entry"] B_least_waits []
@[simp] theorem D_least_waits_b : D_least_waits.body = B_least_waits := id rfl
@[simp] theorem D_least_waits_N : D_least_waits.N.length = 3 := id rfl
@[simp] theorem D_least_waits_np : D_least_waits.np = 1 := id rfl
def B_law_up_2 : List S := [.ret (.bi .min2 [.v 2, .bin .add (.v 1) (.call D_law_taken [.v 0, .c (.int 3)])])]
def D_law_up_2 : FnDef := .mk "_law_up" 3 ["_law_row", "_law_least_here", "_law_most"] B_law_up_2 []
@[simp] theorem D_law_up_2_b : D_law_up_2.body = B_law_up_2 := id rfl
@[simp] theorem D_law_up_2_N : D_law_up_2.N.length = 3 := id rfl
@[simp] theorem D_law_up_2_np : D_law_up_2.np = 3 := id rfl
def B_law_design_2 : List S := [.asg (.v 1) (.call D_law_taken [.v 0, .c (.int 3)]), .asg (.v 2) (.call D_law_taken [.v 0, .c (.int 3)]), .asg (.v 3) (.lst [.tup [.v 2, .call D_law_up_2 [.v 0, .bin .add (.bi .max2 [.v 2, .v 1]) (.c (.int 1)), .c (.int 7)]]]), .for_ (.v 4) (.e (.lst [.c (.str "sum"), .c (.str "mul"), .c (.str "load")])) [.asg (.v 5) (.call D_law_up_2 [.v 0, .v 1, .c (.int 5)]), .asg (.v 2) (.call D_law_up_2 [.v 0, .v 5, .c (.int 6)]), .ex (.bm .append (.v 3) [.tup [.v 5, .v 2, .call D_law_up_2 [.v 0, .bin .add (.v 2) (.c (.int 1)), .c (.int 7)]]])], .asg (.tup [.v 6, .v 7]) (.tup [.call D_law_up_2 [.v 0, .v 1, .c (.int 5)], .call D_law_up_2 [.v 0, .v 1, .c (.int 5)]]), .ex (.bm .append (.v 3) [.tup [.v 6, .v 7, .call D_law_up_2 [.v 0, .bin .add (.bi .max2 [.v 6, .v 7]) (.c (.int 1)), .c (.int 7)]]]), .asg (.v 5) (.call D_law_up_2 [.v 0, .v 1, .c (.int 5)]), .ex (.bm .append (.v 3) [.tup [.v 5, .call D_law_up_2 [.v 0, .v 5, .c (.int 7)]]]), .ex (.bm .append (.v 3) [.tup [.call D_law_taken [.v 0, .c (.int 4)]]]), .asg (.v 5) (.call D_law_up_2 [.v 0, .v 1, .c (.int 5)]), .ex (.bm .append (.v 3) [.tup [.v 5, .call D_law_up_2 [.v 0, .v 5, .c (.int 7)]]]), .asg (.v 8) (.dnew), .for_ (.v 9) (.rng1 (.call D_law_taken [.v 0, .c (.int 10)])) [.asg (.v 10) (.call D_law_taken [.v 0, .c (.int 5)]), .dput (.v 8) [.bin .add (.bin .add (.v 10) (.c (.int 1))) (.call D_law_taken [.v 0, .bin .sub (.c (.int 7)) (.v 10)]), .v 10] (.c (.bl true))], .ret (.tup [.v 1, .cmp .eq (.call D_law_taken [.v 0, .c (.int 2)]) (.c (.int 0)), .bi .tuple [.v 3], .bi .tuple [.dsort (.v 8)], .tup []])]
def D_law_design_2 : FnDef := .mk "_law_design" 1 ["_law_row", "_law_read", "_law_made", "_law_places_here", "_law_kind", "_law_used", "_law_one", "_law_other", "_law_paths", "_law_turn", "_law_to"] B_law_design_2 []
@[simp] theorem D_law_design_2_b : D_law_design_2.body = B_law_design_2 := id rfl
@[simp] theorem D_law_design_2_N : D_law_design_2.N.length = 11 := id rfl
@[simp] theorem D_law_design_2_np : D_law_design_2.np = 1 := id rfl
def B_law_entries : List S := [.asg (.tup [.v 0, .v 1]) (.tup [.lst [.c (.str "set"), .c (.str "sum"), .c (.str "mul"), .c (.str "load")], .lst []]), .asg (.v 2) (.lst [.tup [.c (.str "sum"), .c (.str "a")], .tup [.c (.str "mul"), .c (.str "a")], .tup [.c (.str "load"), .c (.str "a")], .tup [.c (.str "store"), .c (.str "a")], .tup [.c (.str "store"), .c (.str "b")], .tup [.c (.str "zero"), .c (.str "a")], .tup [.c (.str "out"), .c (.str "a")]]), .for_ (.v 3) (.rng2 (.c (.int 1)) (.c (.int 8))) [.for_ (.v 4) (.e (.v 0)) [.asg (.v 1) (.bin .add (.v 1) (.comp [5, 6] (.tup [.v 5, .v 6]) (.e (.v 2)) [] (.tup [.c (.str "value"), .v 4, .v 5, .v 6, .v 3]))), .asg (.v 1) (.bin .add (.v 1) (.comp [5] (.v 5) (.e (.v 0)) [] (.tup [.c (.str "order"), .v 4, .v 5, .v 3])))], .asg (.v 1) (.bin .add (.v 1) (.lst [.tup [.c (.str "memory"), .c (.str "store"), .c (.str "load"), .v 3], .tup [.c (.str "memory"), .c (.str "load"), .c (.str "store"), .v 3]])), .for_ (.v 4) (.e (.lst [.c (.str "zero"), .c (.str "go")])) [.asg (.v 1) (.bin .add (.v 1) (.comp [5] (.v 5) (.e (.bin .add (.v 0) (.lst [.c (.str "store"), .c (.str "out")]))) [] (.tup [.c (.str "wrong"), .v 4, .v 5, .v 3])))]], .ret (.sortT (.v 1))]
def D_law_entries : FnDef := .mk "_law_entries" 0 ["_law_makers", "_law_found", "_law_users", "_law_d", "_law_one", "_law_other", "_law_role"] B_law_entries []
@[simp] theorem D_law_entries_b : D_law_entries.body = B_law_entries := id rfl
@[simp] theorem D_law_entries_N : D_law_entries.N.length = 7 := id rfl
@[simp] theorem D_law_entries_np : D_law_entries.np = 0 := id rfl
def B_law_is_open : List S := [.asg (.tup [.v 3, .v 4, .v 5, .v 6]) (.tup [.idx (.v 0) (.c (.int 1)), .idx (.v 2) (.neg (.c (.int 1))), .idx (.v 2) (.c (.int 1)), .idx (.v 2) (.c (.int 2))]), .ite (.cmp .eq (.idx (.v 2) (.c (.int 0))) (.c (.str "value"))) [.asg (.v 7) (.dget (.v 1) [.v 6, .ite (.cmp .eq (.v 6) (.c (.str "store"))) (.bin .add (.c (.str "used ")) (.idx (.v 2) (.c (.int 3)))) (.c (.str "used"))]), .asg (.v 8) (.or_ (.cmp .lt (.bin .add (.idx (.v 0) (.c (.int 0))) (.v 4)) (.dget (.v 1) [.v 5, .c (.str "written")])) [.and_ (.cmp .eq (.bin .add (.idx (.v 0) (.c (.int 0))) (.v 4)) (.dget (.v 1) [.v 5, .c (.str "written")])) [.not_ (.v 3)]]), .ret (.and_ (.v 8) [.not_ (.and_ (.cmp .inn (.tup [.bin .add (.v 7) (.v 4), .v 7]) (.idx (.v 0) (.c (.int 3)))) [.cmp .gt (.bin .add (.v 7) (.v 4)) (.dget (.v 1) [.v 5, .c (.str "made")])])])] [], .ite (.cmp .eq (.idx (.v 2) (.c (.int 0))) (.c (.str "order"))) [.ret (.cmp .lt (.bin .add (.v 4) (.dget (.v 1) [.v 6, .c (.str "written")])) (.dget (.v 1) [.v 5, .c (.str "written")]))] [], .asg (.tup [.v 9, .v 10]) (.tup [.dget (.v 1) [.c (.str "load"), .c (.str "made")], .dget (.v 1) [.c (.str "store"), .c (.str "put")]]), .ite (.cmp .eq (.idx (.v 2) (.c (.int 0))) (.c (.str "memory"))) [.ite (.cmp .eq (.v 5) (.c (.str "store"))) [.ret (.or_ (.cmp .lt (.bin .add (.v 9) (.v 4)) (.v 10)) [.and_ (.cmp .eq (.bin .add (.v 9) (.v 4)) (.v 10)) [.not_ (.v 3)]])] [], .ret (.or_ (.cmp .lt (.bin .add (.v 4) (.v 10)) (.v 9)) [.and_ (.cmp .eq (.bin .add (.v 4) (.v 10)) (.v 9)) [.v 3]])] [], .asg (.v 11) (.ite (.cmp .eq (.v 6) (.c (.str "store"))) (.v 10) (.ite (.cmp .eq (.v 6) (.c (.str "out"))) (.dget (.v 1) [.c (.str "out"), .c (.str "shown")]) (.dget (.v 1) [.v 6, .c (.str "written")]))), .ret (.cmp .le (.bin .add (.v 4) (.v 11)) (.dget (.v 1) [.v 5, .c (.str "decided")]))]
def D_law_is_open : FnDef := .mk "_law_is_open" 3 ["_law_design_here", "_law_spots", "_law_entry", "_law_same", "_law_d", "_law_one", "_law_other", "_law_used", "_law_late", "_law_fetched", "_law_put", "_law_effect"] B_law_is_open []
@[simp] theorem D_law_is_open_b : D_law_is_open.body = B_law_is_open := id rfl
@[simp] theorem D_law_is_open_N : D_law_is_open.N.length = 12 := id rfl
@[simp] theorem D_law_is_open_np : D_law_is_open.np = 3 := id rfl
def B_law_opens : List S := [.asg (.v 1) (.call D_law_places [.v 0]), .ret (.comp [2] (.v 2) (.e (.call D_law_entries [])) [.call D_law_is_open [.v 0, .v 1, .v 2]] (.v 2))]
def D_law_opens : FnDef := .mk "_law_opens" 1 ["_law_design_here", "_law_spots", "_law_entry"] B_law_opens []
@[simp] theorem D_law_opens_b : D_law_opens.body = B_law_opens := id rfl
@[simp] theorem D_law_opens_N : D_law_opens.N.length = 3 := id rfl
@[simp] theorem D_law_opens_np : D_law_opens.np = 1 := id rfl
def B_law_held : List S := [.ret (.or_ (.cmp .inn (.v 0) (.v 1)) [.and_ (.cmp .eq (.sl (.v 0) (.nob) (.c (.int 3))) (.tup [.c (.str "value"), .c (.str "load"), .c (.str "store")])) [.cmp .inn (.tup [.c (.str "memory"), .c (.str "load"), .c (.str "store"), .idx (.v 0) (.neg (.c (.int 1)))]) (.v 1)]])]
def D_law_held : FnDef := .mk "_law_held" 2 ["_law_entry", "_law_waits"] B_law_held []
@[simp] theorem D_law_held_b : D_law_held.body = B_law_held := id rfl
@[simp] theorem D_law_held_N : D_law_held.N.length = 2 := id rfl
@[simp] theorem D_law_held_np : D_law_held.np = 2 := id rfl
def B_law_least : List S := [.asg (.v 1) (.call D_law_opens [.v 0]), .asg (.v 2) (.lst []), .for_ (.v 3) (.e (.v 1)) [.ite (.not_ (.and_ (.cmp .eq (.sl (.v 3) (.nob) (.c (.int 3))) (.tup [.c (.str "value"), .c (.str "load"), .c (.str "store")])) [.cmp .inn (.tup [.c (.str "memory"), .c (.str "load"), .c (.str "store"), .idx (.v 3) (.neg (.c (.int 1)))]) (.v 1)])) [.ex (.bm .append (.v 2) [.v 3])] []], .ret (.bi .tuple [.v 2])]
def D_law_least : FnDef := .mk "_law_least" 1 ["_law_design_here", "_law_opens_here", "_law_found", "_law_entry"] B_law_least []
@[simp] theorem D_law_least_b : D_law_least.body = B_law_least := id rfl
@[simp] theorem D_law_least_N : D_law_least.N.length = 4 := id rfl
@[simp] theorem D_law_least_np : D_law_least.np = 1 := id rfl
def B_law_more : List S := [.asg (.v 3) (.call D_law_entries []), .asg (.v 4) (.dmk (.comp [5] (.v 5) (.e (.v 1)) [] (.tup [.v 5, .c (.bl true)]))), .for_ (.v 6) (.rng1 (.call D_law_taken [.v 0, .bin .add (.v 2) (.c (.int 1))])) [.kput (.v 4) (.call D_law_pick [.v 0, .v 3]) (.c (.bl true))], .ret (.bi .tuple [.sortT (.dlist (.v 4))])]
def D_law_more : FnDef := .mk "_law_more" 3 ["_law_row", "_law_waits", "_law_many", "_law_every", "_law_found", "_law_entry", "_law_turn"] B_law_more []
@[simp] theorem D_law_more_b : D_law_more.body = B_law_more := id rfl
@[simp] theorem D_law_more_N : D_law_more.N.length = 7 := id rfl
@[simp] theorem D_law_more_np : D_law_more.np = 3 := id rfl
def B_law : List S := [.asg (.v 1) (.lst [.v 0, .c (.int 0), .c (.int 14302), .c (.int 0)]), .asg (.v 2) (.call D_law_entries []), .ite (.not_ (.call D_law_alike [.call D_all_entries [], .bi .tuple [.v 2]])) [.ret (.c (.bl false))] [], .asg (.v 3) (.call D_law_design_2 [.v 1]), .asg (.v 4) (.call D_law_opens [.v 3]), .ite (.not_ (.call D_law_alike [.call D_open_entries [.v 3], .bi .tuple [.v 4]])) [.ret (.c (.bl false))] [], .for_ (.v 5) (.rng1 (.c (.int 20))) [.asg (.v 6) (.call D_law_pick [.v 1, .v 2]), .ite (.or_ (.isB false true (.call D_is_entry [.v 6])) [.not_ (.call D_law_alike [.call D_is_open [.v 3, .v 6], .cmp .inn (.v 6) (.v 4)])]) [.ret (.c (.bl false))] []], .asg (.v 7) (.call D_law_least [.v 3]), .ite (.or_ (.not_ (.call D_law_alike [.call D_least_waits [.v 3], .v 7])) [.isB false true (.call D_is_right [.bin .add (.sl (.v 3) (.nob) (.c (.int 4))) (.tup [.v 7])])]) [.ret (.c (.bl false))] [], .ite (.cmp .ne (.v 7) (.tup [])) [.asg (.v 8) (.call D_law_taken [.v 1, .bi .len [.v 7]]), .ite (.isB false false (.call D_is_right [.bin .add (.sl (.v 3) (.nob) (.c (.int 4))) (.tup [.bin .add (.sl (.v 7) (.nob) (.v 8)) (.sl (.v 7) (.bin .add (.v 8) (.c (.int 1))) (.nob))])])) [.ret (.c (.bl false))] []] [], .asg (.v 9) (.call D_law_more [.v 1, .comp [6] (.v 6) (.e (.v 7)) [.cmp .gt (.call D_law_taken [.v 1, .c (.int 9)]) (.c (.int 0))] (.v 6), .c (.int 9)]), .asg (.v 10) (.cmp .eq (.comp [6] (.v 6) (.e (.v 4)) [.not_ (.call D_law_held [.v 6, .v 9])] (.v 6)) (.lst [])), .ret (.call D_law_alike [.call D_is_right [.bin .add (.sl (.v 3) (.nob) (.c (.int 4))) (.tup [.v 9])], .v 10])]
def D_law : FnDef := .mk "law" 1 ["_law_script", "_law_row", "_law_every", "_law_design_here", "_law_opens_here", "_law_turn", "_law_entry", "_law_least_here", "_law_k", "_law_more_here", "_law_due"] B_law []
@[simp] theorem D_law_b : D_law.body = B_law := id rfl
@[simp] theorem D_law_N : D_law.N.length = 11 := id rfl
@[simp] theorem D_law_np : D_law.np = 1 := id rfl
def B_user_of : List S := [.ite (.cmp .inn (.v 0) (.tup [.c (.str "sum"), .c (.str "mul")])) [.ret (.tup [.ite (.cmp .eq (.v 0) (.c (.str "sum"))) (.c (.str "add")) (.c (.str "mul")), .c (.int 5), .c (.int 0), .c (.int 4)])] [], .ite (.cmp .eq (.v 0) (.c (.str "load"))) [.ret (.tup [.c (.str "load"), .c (.int 5), .c (.int 0), .c (.int 0)])] [], .ite (.cmp .eq (.v 0) (.c (.str "store"))) [.ret (.ite (.cmp .eq (.v 1) (.c (.str "a"))) (.tup [.c (.str "store"), .c (.int 4), .c (.int 0), .c (.int 0)]) (.tup [.c (.str "store"), .c (.int 0), .c (.int 3), .c (.int 0)]))] [], .ret (.ite (.cmp .eq (.v 0) (.c (.str "zero"))) (.tup [.c (.str "zero"), .c (.int 0), .bin .add (.v 2) (.c (.int 2))]) (.tup [.c (.str "out"), .c (.int 0)]))]
def D_user_of : FnDef := .mk "user_of" 3 ["kind", "role", "apart"] B_user_of []
@[simp] theorem D_user_of_b : D_user_of.body = B_user_of := id rfl
@[simp] theorem D_user_of_N : D_user_of.N.length = 3 := id rfl
@[simp] theorem D_user_of_np : D_user_of.np = 3 := id rfl
def B_pair_for : List S := [.asg (.tup [.v 1, .v 2, .v 3, .v 4]) (.tup [.idx (.v 0) (.c (.int 0)), .idx (.v 0) (.c (.int 1)), .idx (.v 0) (.c (.int 2)), .idx (.v 0) (.neg (.c (.int 1)))]), .ite (.cmp .eq (.v 1) (.c (.str "value"))) [.ret (.tup [.idx (.g "MAKERS" G_MAKERS) (.ixN "MAKING" G_MAKING (.v 2)), .call D_user_of [.v 3, .idx (.v 0) (.c (.int 3)), .v 4]])] [], .ite (.cmp .eq (.v 1) (.c (.str "order"))) [.ret (.tup [.idx (.g "ELDERS" G_ELDERS) (.ixN "MAKING" G_MAKING (.v 2)), .idx (.g "MAKERS" G_MAKERS) (.ixN "MAKING" G_MAKING (.v 3))])] [], .ite (.cmp .eq (.v 1) (.c (.str "memory"))) [.ret (.ite (.cmp .eq (.v 2) (.c (.str "store"))) (.tup [.g "STORE" G_STORE, .g "LOAD" G_LOAD]) (.tup [.g "LOAD" G_LOAD, .g "STORE" G_STORE]))] [], .asg (.v 5) (.ite (.cmp .eq (.v 2) (.c (.str "zero"))) (.tup [.c (.str "zero"), .c (.int 2), .bin .add (.v 4) (.c (.int 1))]) (.tup [.c (.str "go"), .bin .add (.v 4) (.c (.int 1))])), .ite (.cmp .inn (.v 3) (.g "MAKING" G_MAKING)) [.ret (.tup [.v 5, .idx (.g "MAKERS" G_MAKERS) (.ixN "MAKING" G_MAKING (.v 3))])] [], .ret (.tup [.v 5, .ite (.cmp .eq (.v 3) (.c (.str "store"))) (.g "STORE" G_STORE) (.g "OUT" G_OUT)])]
def D_pair_for : FnDef := .mk "pair_for" 1 ["entry", "rule", "first", "second", "apart", "jump"] B_pair_for []
@[simp] theorem D_pair_for_b : D_pair_for.body = B_pair_for := id rfl
@[simp] theorem D_pair_for_N : D_pair_for.N.length = 6 := id rfl
@[simp] theorem D_pair_for_np : D_pair_for.np = 1 := id rfl
def B_showing : List S := [.asg (.tup [.v 1, .v 2]) (.call D_pair_for [.v 0]), .asg (.v 3) (.bin .add (.bin .add (.tup [.v 1]) (.bin .mul (.tup [.tup [.c (.str "idle")]]) (.bin .sub (.idx (.v 0) (.neg (.c (.int 1)))) (.c (.int 1))))) (.tup [.v 2])), .asg (.v 4) (.ite (.cmp .eq (.idx (.v 0) (.c (.int 0))) (.c (.str "wrong"))) (.tup [.c (.str "row"), .tup [.c (.int 1)]]) (.tup [.c (.str "next")])), .ite (.cmp .eq (.idx (.v 2) (.c (.int 0))) (.c (.str "zero"))) [.asg (.tup [.v 3, .v 4]) (.tup [.bin .add (.v 3) (.tup [.tup [.c (.str "set"), .c (.int 6), .c (.int 9)]]), .tup [.c (.str "row"), .tup [.bin .add (.idx (.v 0) (.neg (.c (.int 1)))) (.c (.int 2))]]])] [], .ret (.tup [.v 3, .tup [.g "REGISTERS_OF" G_REGISTERS_OF, .g "CELLS_OF" G_CELLS_OF, .tup []], .v 4])]
def D_showing : FnDef := .mk "showing" 1 ["entry", "earlier", "later", "program", "guesser"] B_showing []
@[simp] theorem D_showing_b : D_showing.body = B_showing := id rfl
@[simp] theorem D_showing_N : D_showing.N.length = 5 := id rfl
@[simp] theorem D_showing_np : D_showing.np = 1 := id rfl
def B_shown : List S := [.ex (.call D_need_design [.v 0]), .ex (.call D_need_entry [.v 1]), .ite (.cmp .nin (.v 1) (.call D_missing_in [.v 0])) [.raise 22 "NotMade" []] [], .ret (.call D_showing [.v 1])]
def D_shown : FnDef := .mk "shown" 2 ["design", "entry"] B_shown []
@[simp] theorem D_shown_b : D_shown.body = B_shown := id rfl
@[simp] theorem D_shown_N : D_shown.N.length = 2 := id rfl
@[simp] theorem D_shown_np : D_shown.np = 2 := id rfl
def B_holes_in : List S := [.asg (.v 1) (.lst []), .for_ (.v 2) (.e (.v 0)) [.for_ (.v 3) (.rng2 (.c (.int 1)) (.idx (.v 2) (.neg (.c (.int 1))))) [.ite (.cmp .nin (.bin .add (.sl (.v 2) (.nob) (.neg (.c (.int 1)))) (.tup [.v 3])) (.v 0)) [.ex (.bm .append (.v 1) [.bin .add (.sl (.v 2) (.nob) (.neg (.c (.int 1)))) (.tup [.v 3])])] []]], .ret (.v 1)]
def D_holes_in : FnDef := .mk "holes_in" 1 ["waits", "found", "entry", "apart"] B_holes_in []
@[simp] theorem D_holes_in_b : D_holes_in.body = B_holes_in := id rfl
@[simp] theorem D_holes_in_N : D_holes_in.N.length = 4 := id rfl
@[simp] theorem D_holes_in_np : D_holes_in.np = 1 := id rfl
def B_apart_in : List S := [.asg (.v 2) (.bin .add (.bi .max [.bin .add (.comp [3] (.v 3) (.e (.idx (.v 0) (.c (.int 4)))) [.cmp .eq (.sl (.v 3) (.nob) (.neg (.c (.int 1)))) (.sl (.v 1) (.nob) (.neg (.c (.int 1))))] (.idx (.v 3) (.neg (.c (.int 1))))) (.lst [.c (.int 0)])]) (.c (.int 1))), .ite (.cmp .eq (.sl (.v 1) (.nob) (.c (.int 3))) (.tup [.c (.str "value"), .c (.str "load"), .c (.str "store")])) [.ret (.bi .max2 [.v 2, .self [.v 0, .tup [.c (.str "memory"), .c (.str "load"), .c (.str "store"), .c (.int 1)]]])] [], .ret (.v 2)]
def D_apart_in : FnDef := .mk "apart_in" 2 ["design", "entry", "found", "one"] B_apart_in []
@[simp] theorem D_apart_in_b : D_apart_in.body = B_apart_in := id rfl
@[simp] theorem D_apart_in_N : D_apart_in.N.length = 4 := id rfl
@[simp] theorem D_apart_in_np : D_apart_in.np = 2 := id rfl
def B_distance : List S := [.ex (.call D_need_design [.v 0]), .ex (.call D_need_entry [.v 1]), .ite (.cmp .ne (.call D_holes_in [.idx (.v 0) (.c (.int 4))]) (.lst [])) [.raise 22 "NotMade" []] [], .ret (.call D_apart_in [.v 0, .v 1])]
def D_distance : FnDef := .mk "distance" 2 ["design", "entry"] B_distance []
@[simp] theorem D_distance_b : D_distance.body = B_distance := id rfl
@[simp] theorem D_distance_N : D_distance.N.length = 2 := id rfl
@[simp] theorem D_distance_np : D_distance.np = 2 := id rfl
def B_law_design_3 : List S := [.asg (.v 1) (.call D_law_taken [.v 0, .c (.int 3)]), .asg (.v 2) (.call D_law_taken [.v 0, .c (.int 3)]), .asg (.v 3) (.lst [.tup [.v 2, .call D_law_up [.v 0, .bin .add (.bi .max2 [.v 2, .v 1]) (.c (.int 1)), .c (.int 7)]]]), .for_ (.v 4) (.e (.lst [.c (.str "sum"), .c (.str "mul"), .c (.str "load")])) [.asg (.v 5) (.call D_law_up [.v 0, .v 1, .c (.int 5)]), .asg (.v 2) (.call D_law_up [.v 0, .v 5, .c (.int 6)]), .ex (.bm .append (.v 3) [.tup [.v 5, .v 2, .call D_law_up [.v 0, .bin .add (.v 2) (.c (.int 1)), .c (.int 7)]]])], .asg (.tup [.v 6, .v 7]) (.tup [.call D_law_up [.v 0, .v 1, .c (.int 5)], .call D_law_up [.v 0, .v 1, .c (.int 5)]]), .ex (.bm .append (.v 3) [.tup [.v 6, .v 7, .call D_law_up [.v 0, .bin .add (.bi .max2 [.v 6, .v 7]) (.c (.int 1)), .c (.int 7)]]]), .asg (.v 5) (.call D_law_up [.v 0, .v 1, .c (.int 5)]), .ex (.bm .append (.v 3) [.tup [.v 5, .call D_law_up [.v 0, .v 5, .c (.int 7)]]]), .ex (.bm .append (.v 3) [.tup [.call D_law_taken [.v 0, .c (.int 4)]]]), .asg (.v 5) (.call D_law_up [.v 0, .v 1, .c (.int 5)]), .ex (.bm .append (.v 3) [.tup [.v 5, .call D_law_up [.v 0, .v 5, .c (.int 7)]]]), .asg (.v 8) (.dnew), .for_ (.v 9) (.rng1 (.call D_law_taken [.v 0, .c (.int 10)])) [.asg (.v 10) (.call D_law_taken [.v 0, .c (.int 5)]), .dput (.v 8) [.bin .add (.bin .add (.v 10) (.c (.int 1))) (.call D_law_taken [.v 0, .bin .sub (.c (.int 7)) (.v 10)]), .v 10] (.c (.bl true))], .ret (.tup [.v 1, .cmp .eq (.call D_law_taken [.v 0, .c (.int 2)]) (.c (.int 0)), .bi .tuple [.v 3], .bi .tuple [.dsort (.v 8)], .tup []])]
def D_law_design_3 : FnDef := .mk "_law_design" 1 ["_law_row", "_law_read", "_law_made", "_law_places", "_law_kind", "_law_used", "_law_one", "_law_other", "_law_paths", "_law_turn", "_law_to"] B_law_design_3 []
@[simp] theorem D_law_design_3_b : D_law_design_3.body = B_law_design_3 := id rfl
@[simp] theorem D_law_design_3_N : D_law_design_3.N.length = 11 := id rfl
@[simp] theorem D_law_design_3_np : D_law_design_3.np = 1 := id rfl
end MP

set_option linter.all false
set_option autoImplicit false
set_option Elab.async false
set_option maxRecDepth 100000
namespace MP.Lw
open PySem
/-! ### the evaluator's steps, for the laws: what follows a step has a name, and opens at its turn -/
/-- a test's three ends -/
def oB {β : Type} (o : Option Bool) (t f : β) (x : β) : β := match o with
  | some true => t
  | some false => f
  | none => x
def oM {α β : Type} (o : Option α) (f : α → β) (x : β) : β := match o with
  | some a => f a
  | none => x
section
variable {α β : Type}
@[simp] theorem oB2_some (b : Bool) (t f x : Env → Store → β) (env : Env) (st : Store) : oB (some b) t f x env st = if b = true then t env st else f env st := by cases b <;> rfl
@[simp] theorem oB1_some (b : Bool) (t f x : Store → β) (st : Store) : oB (some b) t f x st = if b = true then t st else f st := by cases b <;> rfl
@[simp] theorem oM_some (a : α) (f : α → β) (x : β) : oM (some a) f x = f a := id rfl
@[simp] theorem oM_none (f : α → β) (x : β) : oM none f x = x := id rfl
end
def vS (o : Option (Option IV)) (st : Store) : Res TV := match o with
  | some (some x) => .ok (.v x) st
  | _ => .bad
@[simp] theorem vS_some {x : IV} {st : Store} : vS (some (some x)) st = .ok (.v x) st := id rfl
def tupK : List IV → Store → Res TV := fun xs st => if xs.length ≤ lineN then .ok (.v (.tup xs)) st else .bad
@[simp] theorem tupK_s {xs : List IV} {st : Store} : tupK xs st = if xs.length ≤ lineN then .ok (.v (.tup xs)) st else .bad := id rfl
def lstK : List IV → Store → Res TV := fun xs st => if xs.length ≤ lineN then .ok (.l xs) st else .bad
@[simp] theorem lstK_s {xs : List IV} {st : Store} : lstK xs st = if xs.length ≤ lineN then .ok (.l xs) st else .bad := id rfl
def negM (x : TV) (st : Store) : Res TV := match x with | .v (.int i) => .ok (.v (.int (-i))) st | _ => .bad
@[simp] theorem negM_s {i : Int} {st : Store} : negM (.v (.int i)) st = .ok (.v (.int (-i))) st := id rfl
def isNM (x : TV) (st : Store) : Res TV := match x with | .v .non => .ok (.v (.bl true)) st | .v _ => .ok (.v (.bl false)) st | _ => .bad
def notNM (x : TV) (st : Store) : Res TV := match x with | .v .non => .ok (.v (.bl false)) st | .v _ => .ok (.v (.bl true)) st | _ => .bad
section
variable {st : Store}
@[simp] theorem isNM_non : isNM (.v .non) st = .ok (.v (.bl true)) st := id rfl
@[simp] theorem isNM_int {i : Int} : isNM (.v (.int i)) st = .ok (.v (.bl false)) st := id rfl
@[simp] theorem isNM_str {i : Str} : isNM (.v (.str i)) st = .ok (.v (.bl false)) st := id rfl
@[simp] theorem isNM_bl {i : Bool} : isNM (.v (.bl i)) st = .ok (.v (.bl false)) st := id rfl
@[simp] theorem isNM_tup {i : List IV} : isNM (.v (.tup i)) st = .ok (.v (.bl false)) st := id rfl
@[simp] theorem isNM_ref {i : Nat} : isNM (.v (.ref i)) st = .ok (.v (.bl false)) st := id rfl
@[simp] theorem notNM_non : notNM (.v .non) st = .ok (.v (.bl false)) st := id rfl
@[simp] theorem notNM_int {i : Int} : notNM (.v (.int i)) st = .ok (.v (.bl true)) st := id rfl
@[simp] theorem notNM_str {i : Str} : notNM (.v (.str i)) st = .ok (.v (.bl true)) st := id rfl
@[simp] theorem notNM_bl {i : Bool} : notNM (.v (.bl i)) st = .ok (.v (.bl true)) st := id rfl
@[simp] theorem notNM_tup {i : List IV} : notNM (.v (.tup i)) st = .ok (.v (.bl true)) st := id rfl
@[simp] theorem notNM_ref {i : Nat} : notNM (.v (.ref i)) st = .ok (.v (.bl true)) st := id rfl
end
def rng1M (x : TV) (st : Store) : Res Sq := match x with
  | .v (.int n) => if inB n then .ok ⟨rngL 0 n.toNat, none⟩ st else .bad
  | _ => .bad
@[simp] theorem rng1M_s {n : Int} {st : Store} : rng1M (.v (.int n)) st = if inB n then .ok ⟨rngL 0 n.toNat, none⟩ st else .bad := id rfl
def rng2M (x y : TV) (st : Store) : Res Sq := match x, y with
  | .v (.int lo), .v (.int hi) => if inB lo && inB hi then .ok ⟨rngL lo (hi - lo).toNat, none⟩ st else .bad
  | _, _ => .bad
@[simp] theorem rng2M_s {lo hi : Int} {st : Store} : rng2M (.v (.int lo)) (.v (.int hi)) st = if inB lo && inB hi then .ok ⟨rngL lo (hi - lo).toNat, none⟩ st else .bad := id rfl
def augE (env : Env) (i : Nat) (op : BOp) (z : Option (Option IV)) (y : TV) (st : Store) : RS := match z, y with
  | some (some (.int a)), .v (.int b) => oM (augI op a b) (fun c => oM (setSl env i (.int c)) (fun env => .nx env st) .bad) .bad
  | _, _ => .bad
@[simp] theorem augE_s {env : Env} {i : Nat} {op : BOp} {a b : Int} {st : Store} : augE env i op (some (some (.int a))) (.v (.int b)) st = oM (augI op a b) (fun c => oM (setSl env i (.int c)) (fun env => .nx env st) .bad) .bad := id rfl
@[simp] theorem augI_add {a b : Int} : augI .add a b = some (a + b) := id rfl
@[simp] theorem augI_sub {a b : Int} : augI .sub a b = some (a - b) := id rfl
def augS (z : Option (Option IV)) (r : RS) : RS := match z with
  | some (some (.int _)) => r
  | _ => .bad
@[simp] theorem augS_s {a : Int} {r : RS} : augS (some (some (.int a))) r = r := id rfl
section
variable {α β : Type} {a : α} {st : Store} {f : α → Store → Res β} {e : Exn} {env : Env} {g : Env → Store → RS} {h : α → Store → RS} {v : TV}
@[simp] theorem bind_ok : (Res.ok a st).bind f = f a st := id rfl
@[simp] theorem bind_exc : (Res.exc e st : Res α).bind f = .exc e st := id rfl
@[simp] theorem bind_bad : (Res.bad : Res α).bind f = .bad := id rfl
@[simp] theorem next_nx : (RS.nx env st).next g = g env st := id rfl
@[simp] theorem next_rt : (RS.rt v st).next g = .rt v st := id rfl
@[simp] theorem next_bk : (RS.bk env st).next g = .bk env st := id rfl
@[simp] theorem next_ct : (RS.ct env st).next g = .ct env st := id rfl
@[simp] theorem next_exc : (RS.exc e env st).next g = .exc e env st := id rfl
@[simp] theorem run_ok : (Res.ok a st).run env h = h a st := id rfl
@[simp] theorem run_exc : (Res.exc e st : Res α).run env h = .exc e env st := id rfl
@[simp] theorem quiet_ok : (Res.ok a st).quiet = .ok a st := id rfl
@[simp] theorem exit_nx : exitF (.nx env st) = .ok (.v .non) st := id rfl
@[simp] theorem exit_rt : exitF (.rt v st) = .ok v st := id rfl
@[simp] theorem exit_exc : exitF (.exc e env st) = .exc e st := id rfl
end
theorem aug_eq {G : Orc} {me : FnDef} {env : Env} {st : Store} {i : Nat} {op : BOp} {e : E} : (match env.sl[i]? with
      | some (some (.int a)) => (evE G me e env st).run env fun y st => match y with
        | .v (.int b) => (match augI op a b with
          | some c => (match setSl env i (.int c) with | some env => RS.nx env st | none => .bad)
          | none => .bad)
        | _ => .bad
      | _ => .bad) = augS (env.sl[i]?) ((evE G me e env st).run env (fun y st => augE env i op (env.sl[i]?) y st)) := by
  rcases env.sl[i]? with _ | _ | x <;> try rfl
  cases x <;> try rfl
  simp only [augS]
  congr 1
  funext y st
  rcases y with x | _ | _ | _ <;> try rfl
  cases x <;> try rfl
  simp only [augE_s]
  rename_i a b
  cases augI op a b with
  | none => rfl
  | some c => simp only [oM_some]; cases setSl env i (.int c) <;> rfl
section
variable {G : Orc} {me : FnDef} {fu : Nat} {env : Env} {st : Store} {s : S} {ss a b : List S} {e e1 e2 e3 t : E} {es : List E} {x y : IV} {v u w : TV} {p : Pt} {ps : List Pt} {i : Nat} {op : BOp} {co o2 : COp}
@[simp] theorem ss_nil : evSs G me fu [] env st = .nx env st := by first | (simp only [evSs]; done) | (simp only [evSs]; rfl)
@[simp] theorem ss_cons : evSs G me fu (s :: ss) env st = (evS G me fu s env st).next (evSs G me fu ss) := by first | (simp only [evSs]; done) | (simp only [evSs]; rfl)
def asgK (G : Orc) (me : FnDef) (p : Pt) (env : Env) : TV → Store → RS := fun x st => (pat G me p x env st).quiet.run env RS.nx
@[simp] theorem asgK_s {G : Orc} {me : FnDef} {p : Pt} {env : Env} {X : TV} {Y : Store} : asgK G me p env X Y = (pat G me p X env Y).quiet.run env RS.nx := id rfl
@[simp] theorem s_asg_ : evS G me fu (.asg p e) env st = (evE G me e env st).run env (asgK G me p env) := by first | (simp only [evS]; done) | (simp only [evS]; rfl)
def exK (env : Env) : TV → Store → RS := fun _ st => .nx env st
@[simp] theorem exK_s {env : Env} {X : TV} {Y : Store} : exK env X Y = .nx env Y := id rfl
@[simp] theorem s_ex : evS G me fu (.ex e) env st = (evE G me e env st).run env (exK env) := by first | (simp only [evS]; done) | (simp only [evS]; rfl)
@[simp] theorem s_ret : evS G me fu (.ret e) env st = (evE G me e env st).run env RS.rt := by first | (simp only [evS]; done) | (simp only [evS]; rfl)
@[simp] theorem s_ret0 : evS G me fu .ret0 env st = .rt (.v .non) st := by first | (simp only [evS]; done) | (simp only [evS]; rfl)
@[simp] theorem s_pass : evS G me fu .pass env st = .nx env st := by first | (simp only [evS]; done) | (simp only [evS]; rfl)
@[simp] theorem s_brk : evS G me fu .brk env st = .bk env st := by first | (simp only [evS]; done) | (simp only [evS]; rfl)
@[simp] theorem s_cont : evS G me fu .cont env st = .ct env st := by first | (simp only [evS]; done) | (simp only [evS]; rfl)
def iteK (G : Orc) (me : FnDef) (fu : Nat) (a : List S) (b : List S) (env : Env) : TV → Store → RS := fun x st => match boolOf x with | some true => evSs G me fu a env st | some false => evSs G me fu b env st | none => .bad
@[simp] theorem iteK_s {G : Orc} {me : FnDef} {fu : Nat} {a : List S} {b : List S} {env : Env} {X : TV} {Y : Store} : iteK G me fu a b env X Y = oB (boolOf X) (evSs G me fu a) (evSs G me fu b) (fun _ _ => .bad) env Y := by unfold iteK; rcases boolOf X with _ | (_ | _) <;> rfl
@[simp] theorem s_ite_ : evS G me fu (.ite t a b) env st = (evE G me t env st).run env (iteK G me fu a b env) := by first | (simp only [evS]; done) | (simp only [evS]; rfl)
def augK (env : Env) (i : Nat) (op : BOp) (z : Option (Option IV)) : TV → Store → RS := fun y st => augE env i op z y st
@[simp] theorem augK_s {env : Env} {i : Nat} {op : BOp} {z : Option (Option IV)} {X : TV} {Y : Store} : augK env i op z X Y = augE env i op z X Y := id rfl
@[simp] theorem s_aug_ : evS G me fu (.aug i op e) env st = augS (env.sl[i]?) ((evE G me e env st).run env (augK env i op (env.sl[i]?))) := by simp only [evS]; exact aug_eq
@[simp] theorem e_v : evE G me (.v i) env st = vS (env.sl[i]?) st := by first | (simp only [evE]; done) | (simp only [evE]; rfl)
@[simp] theorem e_c : evE G me (.c x) env st = .ok (.v x) st := by first | (simp only [evE]; done) | (simp only [evE]; rfl)
@[simp] theorem e_g {nm : Str} : evE G me (.g nm x) env st = .ok (.v x) st := by first | (simp only [evE]; done) | (simp only [evE]; rfl)
def matsTK  : List TV → Store → Res TV := fun vs st => (mats vs st).bind tupK
@[simp] theorem matsTK_s  {X : List TV} {Y : Store} : matsTK  X Y = (mats X Y).bind tupK := id rfl
def matsLK  : List TV → Store → Res TV := fun vs st => (mats vs st).bind lstK
@[simp] theorem matsLK_s  {X : List TV} {Y : Store} : matsLK  X Y = (mats X Y).bind lstK := id rfl
@[simp] theorem e_tup : evE G me (.tup es) env st = (evEs G me es env st).bind matsTK := by first | (simp only [evE]; done) | (simp only [evE]; rfl)
@[simp] theorem e_lst : evE G me (.lst es) env st = (evEs G me es env st).bind matsLK := by first | (simp only [evE]; done) | (simp only [evE]; rfl)
def binK2 (op : BOp) (u : TV) : TV → Store → Res TV := fun y st => binM op u y st
@[simp] theorem binK2_s {op : BOp} {u : TV} {X : TV} {Y : Store} : binK2 op u X Y = binM op u X Y := id rfl
def binK (G : Orc) (me : FnDef) (op : BOp) (e2 : E) (env : Env) : TV → Store → Res TV := fun x st => (evE G me e2 env st).bind (binK2 op x)
@[simp] theorem binK_s {G : Orc} {me : FnDef} {op : BOp} {e2 : E} {env : Env} {X : TV} {Y : Store} : binK G me op e2 env X Y = (evE G me e2 env Y).bind (binK2 op X) := id rfl
@[simp] theorem e_bin : evE G me (.bin op e1 e2) env st = (evE G me e1 env st).bind (binK G me op e2 env) := by first | (simp only [evE]; done) | (simp only [evE]; rfl)
def cmpK2 (co : COp) (u : TV) : TV → Store → Res TV := fun y st => cmpM co u y st
@[simp] theorem cmpK2_s {co : COp} {u : TV} {X : TV} {Y : Store} : cmpK2 co u X Y = cmpM co u X Y := id rfl
def cmpK (G : Orc) (me : FnDef) (co : COp) (e2 : E) (env : Env) : TV → Store → Res TV := fun x st => (evE G me e2 env st).bind (cmpK2 co x)
@[simp] theorem cmpK_s {G : Orc} {me : FnDef} {co : COp} {e2 : E} {env : Env} {X : TV} {Y : Store} : cmpK G me co e2 env X Y = (evE G me e2 env Y).bind (cmpK2 co X) := id rfl
@[simp] theorem e_cmp : evE G me (.cmp co e1 e2) env st = (evE G me e1 env st).bind (cmpK G me co e2 env) := by first | (simp only [evE]; done) | (simp only [evE]; rfl)
def negK  : TV → Store → Res TV := fun x st => negM x st
@[simp] theorem negK_s  {X : TV} {Y : Store} : negK  X Y = negM X Y := id rfl
@[simp] theorem e_neg : evE G me (.neg e) env st = (evE G me e env st).bind negK := by simp only [evE]; rfl
def chK4 (o2 : COp) (y : TV) : TV → Store → Res TV := fun z st => cmpM o2 y z st
@[simp] theorem chK4_s {o2 : COp} {y : TV} {X : TV} {Y : Store} : chK4 o2 y X Y = cmpM o2 y X Y := id rfl
def chK3 (G : Orc) (me : FnDef) (o2 : COp) (e3 : E) (env : Env) (y : TV) : TV → Store → Res TV := fun q st => match boolOf q with | some true => (evE G me e3 env st).bind (chK4 o2 y) | some false => .ok (.v (.bl false)) st | none => .bad
@[simp] theorem chK3_s {G : Orc} {me : FnDef} {o2 : COp} {e3 : E} {env : Env} {y : TV} {X : TV} {Y : Store} : chK3 G me o2 e3 env y X Y = oB (boolOf X) (fun Y => (evE G me e3 env Y).bind (chK4 o2 y)) (fun Y => .ok (.v (.bl false)) Y) (fun _ => .bad) Y := by unfold chK3; rcases boolOf X with _ | (_ | _) <;> rfl
def chK2 (G : Orc) (me : FnDef) (co : COp) (o2 : COp) (e3 : E) (env : Env) (x : TV) : TV → Store → Res TV := fun y st => (cmpM co x y st).bind (chK3 G me o2 e3 env y)
@[simp] theorem chK2_s {G : Orc} {me : FnDef} {co : COp} {o2 : COp} {e3 : E} {env : Env} {x : TV} {X : TV} {Y : Store} : chK2 G me co o2 e3 env x X Y = (cmpM co x X Y).bind (chK3 G me o2 e3 env X) := id rfl
def chK (G : Orc) (me : FnDef) (co : COp) (o2 : COp) (e2 : E) (e3 : E) (env : Env) : TV → Store → Res TV := fun x st => (evE G me e2 env st).bind (chK2 G me co o2 e3 env x)
@[simp] theorem chK_s {G : Orc} {me : FnDef} {co : COp} {o2 : COp} {e2 : E} {e3 : E} {env : Env} {X : TV} {Y : Store} : chK G me co o2 e2 e3 env X Y = (evE G me e2 env Y).bind (chK2 G me co o2 e3 env X) := id rfl
@[simp] theorem e_chain : evE G me (.chain co o2 e1 e2 e3) env st = (evE G me e1 env st).bind (chK G me co o2 e2 e3 env) := by first | (simp only [evE]; done) | (simp only [evE]; rfl)
def isNK  : TV → Store → Res TV := fun x st => isNM x st
@[simp] theorem isNK_s  {X : TV} {Y : Store} : isNK  X Y = isNM X Y := id rfl
@[simp] theorem e_isN : evE G me (.isN e) env st = (evE G me e env st).bind isNK := by simp only [evE]; rfl
def notNK  : TV → Store → Res TV := fun x st => notNM x st
@[simp] theorem notNK_s  {X : TV} {Y : Store} : notNK  X Y = notNM X Y := id rfl
@[simp] theorem e_notN : evE G me (.notN e) env st = (evE G me e env st).bind notNK := by simp only [evE]; rfl
def andK (G : Orc) (me : FnDef) (es : List E) (env : Env) : TV → Store → Res TV := fun x st => evAnd G me x es env st
@[simp] theorem andK_s {G : Orc} {me : FnDef} {es : List E} {env : Env} {X : TV} {Y : Store} : andK G me es env X Y = evAnd G me X es env Y := id rfl
def isBM (pos b : Bool) (x : TV) (st : Store) : Res TV := match x with | .v y => .ok (.v (.bl (if pos then isBv b y else !isBv b y))) st | _ => .bad
@[simp] theorem isBM_s {pos b : Bool} {y : IV} : isBM pos b (.v y) st = .ok (.v (.bl (if pos then isBv b y else !isBv b y))) st := id rfl
@[simp] theorem isBv_bl {b c : Bool} : isBv b (.bl c) = decide (c = b) := id rfl
@[simp] theorem isBv_int {b : Bool} {i : Int} : isBv b (.int i) = false := id rfl
@[simp] theorem isBv_str {b : Bool} {i : Str} : isBv b (.str i) = false := id rfl
@[simp] theorem isBv_non {b : Bool} : isBv b .non = false := id rfl
@[simp] theorem isBv_tup {b : Bool} {xs : List IV} : isBv b (.tup xs) = false := id rfl
def isBK (pos b : Bool) : TV → Store → Res TV := fun x st => isBM pos b x st
@[simp] theorem isBK_s {pos b : Bool} {X : TV} {Y : Store} : isBK pos b X Y = isBM pos b X Y := id rfl
@[simp] theorem e_isB {pos b : Bool} : evE G me (.isB pos b e) env st = (evE G me e env st).bind (isBK pos b) := by simp only [evE]; rfl
def c3K6 (o3 : COp) (z : TV) : TV → Store → Res TV := fun u st => cmpM o3 z u st
@[simp] theorem c3K6_s {o3 : COp} {z X : TV} {Y : Store} : c3K6 o3 z X Y = cmpM o3 z X Y := id rfl
def c3K5 (G : Orc) (me : FnDef) (o3 : COp) (e : E) (env : Env) (z : TV) : TV → Store → Res TV := fun k st => match boolOf k with
        | some true => (evE G me e env st).bind fun u st => cmpM o3 z u st
        | some false => .ok (.v (.bl false)) st
        | none => .bad
@[simp] theorem c3K5_s {o3 : COp} {z X : TV} {Y : Store} : c3K5 G me o3 e env z X Y = oB (boolOf X) (fun st => (evE G me e env st).bind (c3K6 o3 z)) (fun st => .ok (.v (.bl false)) st) (fun _ => .bad) Y := by
  unfold c3K5; rcases boolOf X with _ | (_ | _) <;> rfl
def c3K4 (G : Orc) (me : FnDef) (o2 o3 : COp) (e : E) (env : Env) (y : TV) : TV → Store → Res TV := fun z st => (cmpM o2 y z st).bind (c3K5 G me o3 e env z)
@[simp] theorem c3K4_s {o3 : COp} {X : TV} {y : TV} {Y : Store} : c3K4 G me o2 o3 e env y X Y = (cmpM o2 y X Y).bind (c3K5 G me o3 e env X) := id rfl
def c3K3 (G : Orc) (me : FnDef) (o2 o3 : COp) (e1 e : E) (env : Env) (y : TV) : TV → Store → Res TV := fun k st => match boolOf k with
      | some true => (evE G me e1 env st).bind (c3K4 G me o2 o3 e env y)
      | some false => .ok (.v (.bl false)) st
      | none => .bad
@[simp] theorem c3K3_s {o3 : COp} {X : TV} {y : TV} {Y : Store} : c3K3 G me o2 o3 e1 e env y X Y = oB (boolOf X) (fun st => (evE G me e1 env st).bind (c3K4 G me o2 o3 e env y)) (fun st => .ok (.v (.bl false)) st) (fun _ => .bad) Y := by
  unfold c3K3; rcases boolOf X with _ | (_ | _) <;> rfl
def c3K2 (G : Orc) (me : FnDef) (o1 o2 o3 : COp) (e1 e : E) (env : Env) (x : TV) : TV → Store → Res TV := fun y st => (cmpM o1 x y st).bind (c3K3 G me o2 o3 e1 e env y)
@[simp] theorem c3K2_s {o1 o3 : COp} {X : TV} {x : TV} {Y : Store} : c3K2 G me o1 o2 o3 e1 e env x X Y = (cmpM o1 x X Y).bind (c3K3 G me o2 o3 e1 e env X) := id rfl
def c3K (G : Orc) (me : FnDef) (o1 o2 o3 : COp) (t e1 e : E) (env : Env) : TV → Store → Res TV := fun x st => (evE G me t env st).bind (c3K2 G me o1 o2 o3 e1 e env x)
@[simp] theorem c3K_s {o1 o3 : COp} {X : TV} {Y : Store} : c3K G me o1 o2 o3 t e1 e env X Y = (evE G me t env Y).bind (c3K2 G me o1 o2 o3 e1 e env X) := id rfl
@[simp] theorem e_chain3 {o1 o3 : COp} {e0 : E} : evE G me (.chain3 o1 o2 o3 e0 t e1 e) env st = (evE G me e0 env st).bind (c3K G me o1 o2 o3 t e1 e env) := by simp only [evE]; rfl
def ixK2 (tup : Bool) (x : TV) : TV → Store → Res TV := fun y st => ixM tup x y st
@[simp] theorem ixK2_s {tup : Bool} {x X : TV} {Y : Store} : ixK2 tup x X Y = ixM tup x X Y := id rfl
def ixK (G : Orc) (me : FnDef) (tup : Bool) (e : E) (env : Env) : TV → Store → Res TV := fun x st => if ixSeq tup st x then (evE G me e env st).bind (ixK2 tup x) else .bad
@[simp] theorem ixK_s {tup : Bool} {X : TV} {Y : Store} : ixK G me tup e env X Y = if ixSeq tup Y X then (evE G me e env Y).bind (ixK2 tup X) else .bad := id rfl
@[simp] theorem e_ixof {tup : Bool} : evE G me (.ixof tup e1 e) env st = (evE G me e1 env st).bind (ixK G me tup e env) := by simp only [evE]; rfl
def cntK2 (x : TV) : TV → Store → Res TV := fun y st => cntM x y st
@[simp] theorem cntK2_s {x X : TV} {Y : Store} : cntK2 x X Y = cntM x X Y := id rfl
def cntK (G : Orc) (me : FnDef) (e : E) (env : Env) : TV → Store → Res TV := fun x st => if isLst x st then (evE G me e env st).bind (cntK2 x) else .bad
@[simp] theorem cntK_s {X : TV} {Y : Store} : cntK G me e env X Y = if isLst X Y then (evE G me e env Y).bind (cntK2 X) else .bad := id rfl
@[simp] theorem e_cntB : evE G me (.cntB e1 e) env st = (evE G me e1 env st).bind (cntK G me e env) := by simp only [evE]; rfl
@[simp] theorem e_and : evE G me (.and_ e es) env st = (evE G me e env st).bind (andK G me es env) := by first | (simp only [evE]; done) | (simp only [evE]; rfl)
def orK (G : Orc) (me : FnDef) (es : List E) (env : Env) : TV → Store → Res TV := fun x st => evOr G me x es env st
@[simp] theorem orK_s {G : Orc} {me : FnDef} {es : List E} {env : Env} {X : TV} {Y : Store} : orK G me es env X Y = evOr G me X es env Y := id rfl
@[simp] theorem e_or : evE G me (.or_ e es) env st = (evE G me e env st).bind (orK G me es env) := by first | (simp only [evE]; done) | (simp only [evE]; rfl)
def notK  : TV → Store → Res TV := fun x st => match boolOf x with | some b => .ok (.v (.bl (!b))) st | none => .bad
@[simp] theorem notK_s  {X : TV} {Y : Store} : notK  X Y = oM (boolOf X) (fun b => .ok (.v (.bl (!b))) Y) .bad := by unfold notK; cases boolOf X <;> rfl
@[simp] theorem e_not : evE G me (.not_ e) env st = (evE G me e env st).bind notK := by first | (simp only [evE]; done) | (simp only [evE]; rfl)
def iteEK (G : Orc) (me : FnDef) (e1 : E) (e2 : E) (env : Env) : TV → Store → Res TV := fun x st => match boolOf x with | some true => evE G me e1 env st | some false => evE G me e2 env st | none => .bad
@[simp] theorem iteEK_s {G : Orc} {me : FnDef} {e1 : E} {e2 : E} {env : Env} {X : TV} {Y : Store} : iteEK G me e1 e2 env X Y = oB (boolOf X) (evE G me e1) (evE G me e2) (fun _ _ => .bad) env Y := by unfold iteEK; rcases boolOf X with _ | (_ | _) <;> rfl
@[simp] theorem e_ite : evE G me (.ite t e1 e2) env st = (evE G me t env st).bind (iteEK G me e1 e2 env) := by first | (simp only [evE]; done) | (simp only [evE]; rfl)
def idxK2 (u : TV) : TV → Store → Res TV := fun y st => idxM u y st
@[simp] theorem idxK2_s {u : TV} {X : TV} {Y : Store} : idxK2 u X Y = idxM u X Y := id rfl
def idxK (G : Orc) (me : FnDef) (e2 : E) (env : Env) : TV → Store → Res TV := fun x st => (evE G me e2 env st).bind (idxK2 x)
@[simp] theorem idxK_s {G : Orc} {me : FnDef} {e2 : E} {env : Env} {X : TV} {Y : Store} : idxK G me e2 env X Y = (evE G me e2 env Y).bind (idxK2 X) := id rfl
@[simp] theorem e_idx : evE G me (.idx e1 e2) env st = (evE G me e1 env st).bind (idxK G me e2 env) := by first | (simp only [evE]; done) | (simp only [evE]; rfl)
def callK (G : Orc) (fd : FnDef) : List TV → Store → Res TV := fun vs st => callWith G fd vs st
@[simp] theorem callK_s {G : Orc} {fd : FnDef} {X : List TV} {Y : Store} : callK G fd X Y = callWith G fd X Y := id rfl
@[simp] theorem e_call {fd : FnDef} : evE G me (.call fd es) env st = (evEs G me es env st).bind (callK G fd) := by first | (simp only [evE]; done) | (simp only [evE]; rfl)
@[simp] theorem e_self : evE G me (.self es) env st = (evEs G me es env st).bind (callK G me) := by first | (simp only [evE]; done) | (simp only [evE]; rfl)
def biK (f : Bi) : List TV → Store → Res TV := fun vs st => biM f vs st
@[simp] theorem biK_s {f : Bi} {X : List TV} {Y : Store} : biK f X Y = biM f X Y := id rfl
@[simp] theorem e_bi {f : Bi} : evE G me (.bi f es) env st = (evEs G me es env st).bind (biK f) := by first | (simp only [evE]; done) | (simp only [evE]; rfl)
def isIK (ts : List Ty) : TV → Store → Res TV := fun x st => match isTys st x ts with | some b => .ok (.v (.bl b)) st | none => .bad
@[simp] theorem isIK_s {ts : List Ty} {X : TV} {Y : Store} : isIK ts X Y = oM (isTys Y X ts) (fun b => .ok (.v (.bl b)) Y) .bad := by unfold isIK; cases isTys Y X ts <;> rfl
@[simp] theorem e_isI {ts : List Ty} : evE G me (.isI e ts) env st = (evE G me e env st).bind (isIK ts) := by first | (simp only [evE]; done) | (simp only [evE]; rfl)
def bmK2 (f : Bm) (x : TV) : List TV → Store → Res TV := fun vs st => bmM f x vs st
@[simp] theorem bmK2_s {f : Bm} {x : TV} {X : List TV} {Y : Store} : bmK2 f x X Y = bmM f x X Y := id rfl
def bmK (G : Orc) (me : FnDef) (f : Bm) (es : List E) (env : Env) : TV → Store → Res TV := fun x st => if isLst x st then (evEs G me es env st).bind (bmK2 f x) else .bad
@[simp] theorem bmK_s {G : Orc} {me : FnDef} {f : Bm} {es : List E} {env : Env} {X : TV} {Y : Store} : bmK G me f es env X Y = if isLst X Y then (evEs G me es env Y).bind (bmK2 f X) else .bad := id rfl
@[simp] theorem e_bm {f : Bm} : evE G me (.bm f e es) env st = (evE G me e env st).bind (bmK G me f es env) := by first | (simp only [evE]; done) | (simp only [evE]; rfl)
def compT (G : Orc) (me : FnDef) (p : Pt) : Env → IV → Store → Res Env := fun env x st => pat G me p (.v x) env st
@[simp] theorem compT_s {X : Env} {Y : IV} {Z : Store} : compT G me p X Y Z = pat G me p (.v Y) X Z := id rfl
def compK (G : Orc) (me : FnDef) (own : List Nat) (p : Pt) (es : List E) (e : E) (env : Env) : Sq → Store → Res TV := fun q st => compF q { env with sl := wipeN env.sl own, lm := [] } (compT G me p) (evIfs G me es) (evE G me e) q.xs [] st
@[simp] theorem compK_s {G : Orc} {me : FnDef} {own : List Nat} {p : Pt} {es : List E} {e : E} {env : Env} {X : Sq} {Y : Store} : compK G me own p es e env X Y = compF X { env with sl := wipeN env.sl own, lm := [] } (compT G me p) (evIfs G me es) (evE G me e) X.xs [] Y := id rfl
@[simp] theorem e_comp {own : List Nat} {it : It} : evE G me (.comp own p it es e) env st = (evIt G me it env st).bind (compK G me own p es e env) := by first | (simp only [evE]; done) | (simp only [evE]; rfl)
def slNK  : TV → Store → Res TV := fun x st => slM x none none st
@[simp] theorem slNK_s  {X : TV} {Y : Store} : slNK  X Y = slM X none none Y := id rfl
def slLK2 (x : TV) : Option Int → Store → Res TV := fun l st => slM x l none st
@[simp] theorem slLK2_s {x : TV} {X : Option Int} {Y : Store} : slLK2 x X Y = slM x X none Y := id rfl
def slLK (G : Orc) (me : FnDef) (e1 : E) (env : Env) : TV → Store → Res TV := fun x st => ((evE G me e1 env st).bind asInt).bind (slLK2 x)
@[simp] theorem slLK_s {G : Orc} {me : FnDef} {e1 : E} {env : Env} {X : TV} {Y : Store} : slLK G me e1 env X Y = ((evE G me e1 env Y).bind asInt).bind (slLK2 X) := id rfl
def slHK2 (x : TV) : Option Int → Store → Res TV := fun l st => slM x none l st
@[simp] theorem slHK2_s {x : TV} {X : Option Int} {Y : Store} : slHK2 x X Y = slM x none X Y := id rfl
def slHK (G : Orc) (me : FnDef) (e1 : E) (env : Env) : TV → Store → Res TV := fun x st => ((evE G me e1 env st).bind asInt).bind (slHK2 x)
@[simp] theorem slHK_s {G : Orc} {me : FnDef} {e1 : E} {env : Env} {X : TV} {Y : Store} : slHK G me e1 env X Y = ((evE G me e1 env Y).bind asInt).bind (slHK2 X) := id rfl
def slBK3 (x : TV) (l : Option Int) : Option Int → Store → Res TV := fun h st => slM x l h st
@[simp] theorem slBK3_s {x : TV} {l : Option Int} {X : Option Int} {Y : Store} : slBK3 x l X Y = slM x l X Y := id rfl
def slBK2 (G : Orc) (me : FnDef) (e2 : E) (env : Env) (x : TV) : Option Int → Store → Res TV := fun l st => ((evE G me e2 env st).bind asInt).bind (slBK3 x l)
@[simp] theorem slBK2_s {G : Orc} {me : FnDef} {e2 : E} {env : Env} {x : TV} {X : Option Int} {Y : Store} : slBK2 G me e2 env x X Y = ((evE G me e2 env Y).bind asInt).bind (slBK3 x X) := id rfl
def slBK (G : Orc) (me : FnDef) (e1 : E) (e2 : E) (env : Env) : TV → Store → Res TV := fun x st => ((evE G me e1 env st).bind asInt).bind (slBK2 G me e2 env x)
@[simp] theorem slBK_s {G : Orc} {me : FnDef} {e1 : E} {e2 : E} {env : Env} {X : TV} {Y : Store} : slBK G me e1 e2 env X Y = ((evE G me e1 env Y).bind asInt).bind (slBK2 G me e2 env X) := id rfl
@[simp] theorem es_nil : evEs G me [] env st = .ok [] st := by first | (simp only [evEs]; done) | (simp only [evEs]; rfl)
def esK2 (x : TV) : List TV → Store → Res (List TV) := fun xs st => .ok (x :: xs) st
@[simp] theorem esK2_s {x : TV} {X : List TV} {Y : Store} : esK2 x X Y = .ok (x :: X) Y := id rfl
def esK (G : Orc) (me : FnDef) (es : List E) (env : Env) : TV → Store → Res (List TV) := fun x st => (evEs G me es env st).bind (esK2 x)
@[simp] theorem esK_s {G : Orc} {me : FnDef} {es : List E} {env : Env} {X : TV} {Y : Store} : esK G me es env X Y = (evEs G me es env Y).bind (esK2 X) := id rfl
@[simp] theorem es_cons : evEs G me (e :: es) env st = (evE G me e env st).bind (esK G me es env) := by first | (simp only [evEs]; done) | (simp only [evEs]; rfl)
@[simp] theorem and_nil : evAnd G me v [] env st = .ok v st := by first | (simp only [evAnd]; done) | (simp only [evAnd]; rfl)
@[simp] theorem and_cons : evAnd G me v (e :: es) env st = oB (boolOf v) (fun st => (evE G me e env st).bind (andK G me es env)) (fun st => .ok (.v (.bl false)) st) (fun _ => .bad) st := by simp only [evAnd]; rcases boolOf v with _ | (_ | _) <;> rfl
@[simp] theorem or_nil : evOr G me v [] env st = .ok v st := by first | (simp only [evOr]; done) | (simp only [evOr]; rfl)
@[simp] theorem ifs_nil_ : evIfs G me [] env st = .ok true st := by first | (simp only [evIfs]; done) | (simp only [evIfs]; rfl)
def ifsK (G : Orc) (me : FnDef) (es : List E) (env : Env) : TV → Store → Res Bool := fun x st => match boolOf x with | some true => evIfs G me es env st | some false => .ok false st | none => .bad
@[simp] theorem ifsK_s {G : Orc} {me : FnDef} {es : List E} {env : Env} {X : TV} {Y : Store} : ifsK G me es env X Y = oB (boolOf X) (fun Y => evIfs G me es env Y) (fun Y => .ok false Y) (fun _ => .bad) Y := by unfold ifsK; rcases boolOf X with _ | (_ | _) <;> rfl
def itK  : TV → Store → Res Sq := fun x st => match sqOf st x with | some q => .ok q st | none => .bad
@[simp] theorem itK_s  {X : TV} {Y : Store} : itK  X Y = oM (sqOf Y X) (fun q => .ok q Y) .bad := by unfold itK; cases sqOf Y X <;> rfl
@[simp] theorem it_e : evIt G me (.e e) env st = (evE G me e env st).bind itK := by first | (simp only [evIt]; done) | (simp only [evIt]; rfl)
def r1K  : TV → Store → Res Sq := fun x st => rng1M x st
@[simp] theorem r1K_s  {X : TV} {Y : Store} : r1K  X Y = rng1M X Y := id rfl
@[simp] theorem it_rng1 : evIt G me (.rng1 e) env st = (evE G me e env st).bind r1K := by simp only [evIt]; rfl
def r2K2 (x : TV) : TV → Store → Res Sq := fun y st => rng2M x y st
@[simp] theorem r2K2_s {x : TV} {X : TV} {Y : Store} : r2K2 x X Y = rng2M x X Y := id rfl
def r2K (G : Orc) (me : FnDef) (e2 : E) (env : Env) : TV → Store → Res Sq := fun x st => (evE G me e2 env st).bind (r2K2 x)
@[simp] theorem r2K_s {G : Orc} {me : FnDef} {e2 : E} {env : Env} {X : TV} {Y : Store} : r2K G me e2 env X Y = (evE G me e2 env Y).bind (r2K2 X) := id rfl
@[simp] theorem it_rng2 : evIt G me (.rng2 e1 e2) env st = (evE G me e1 env st).bind (r2K G me e2 env) := by simp only [evIt]; rfl
def patVK (i : Nat) (env : Env) : IV → Store → Res Env := fun y st => match setSl env i y with | some env => .ok env st | none => .bad
@[simp] theorem patVK_s {i : Nat} {env : Env} {X : IV} {Y : Store} : patVK i env X Y = oM (setSl env i X) (fun env => .ok env Y) .bad := by unfold patVK; cases setSl env i X <;> rfl
@[simp] theorem pat_v : pat G me (.v i) v env st = (mat v st).bind (patVK i env) := by first | (simp only [pat]; done) | (simp only [pat]; rfl)
def patTK (G : Orc) (me : FnDef) (ps : List Pt) (env : Env) (st : Store) : List IV → Res Env := fun xs => pats G me ps xs env st
@[simp] theorem patTK_s {X : List IV} : patTK G me ps env st X = pats G me ps X env st := id rfl
@[simp] theorem pat_tup : pat G me (.tup ps) v env st = oM (unpack st v ps.length) (patTK G me ps env st) .bad := by simp only [pat]; cases unpack st v ps.length <;> rfl
def patIK3 (env : Env) (z : IV) (u : TV) : TV → Store → Res Env := fun w st => match setIdx u w z st with | some st => .ok env st | none => .bad
@[simp] theorem patIK3_s {env : Env} {z : IV} {u : TV} {X : TV} {Y : Store} : patIK3 env z u X Y = oM (setIdx u X z Y) (fun Y => .ok env Y) .bad := by unfold patIK3; cases setIdx u X z Y <;> rfl
def patIK2 (G : Orc) (me : FnDef) (e2 : E) (env : Env) (z : IV) : TV → Store → Res Env := fun u st => (evE G me e2 env st).bind (patIK3 env z u)
@[simp] theorem patIK2_s {G : Orc} {me : FnDef} {e2 : E} {env : Env} {z : IV} {X : TV} {Y : Store} : patIK2 G me e2 env z X Y = (evE G me e2 env Y).bind (patIK3 env z X) := id rfl
def patIK (G : Orc) (me : FnDef) (e1 : E) (e2 : E) (env : Env) : IV → Store → Res Env := fun z st => (evE G me e1 env st).bind (patIK2 G me e2 env z)
@[simp] theorem patIK_s {G : Orc} {me : FnDef} {e1 : E} {e2 : E} {env : Env} {X : IV} {Y : Store} : patIK G me e1 e2 env X Y = (evE G me e1 env Y).bind (patIK2 G me e2 env X) := id rfl
@[simp] theorem pat_idx : pat G me (.idx e1 e2) v env st = (mat v st).bind (patIK G me e1 e2 env) := by first | (simp only [pat]; done) | (simp only [pat]; rfl)
@[simp] theorem pats_nil : pats G me [] [] env st = .ok env st := by first | (simp only [pats]; done) | (simp only [pats]; rfl)
def patsK (G : Orc) (me : FnDef) (ps : List Pt) (xs : List IV) : Env → Store → Res Env := fun env st => pats G me ps xs env st
@[simp] theorem patsK_s {G : Orc} {me : FnDef} {ps : List Pt} {xs : List IV} {X : Env} {Y : Store} : patsK G me ps xs X Y = pats G me ps xs X Y := id rfl
@[simp] theorem pats_cons {xs : List IV} : pats G me (p :: ps) (x :: xs) env st = (pat G me p (.v x) env st).bind (patsK G me ps xs) := by first | (simp only [pats]; done) | (simp only [pats]; rfl)
@[simp] theorem mat_v : mat (.v x) st = .ok x st := by rfl
@[simp] theorem mat_l {xs : List IV} : mat (.l xs) st = .ok (.ref st.length) (st ++ [.lst xs]) := id rfl
@[simp] theorem mats_nil : mats [] st = .ok [] st := by rfl
def matsK2 (y : IV) : List IV → Store → Res (List IV) := fun ys st => .ok (y :: ys) st
@[simp] theorem matsK2_s {y : IV} {X : List IV} {Y : Store} : matsK2 y X Y = .ok (y :: X) Y := id rfl
def matsK (vs : List TV) : IV → Store → Res (List IV) := fun y st => (mats vs st).bind (matsK2 y)
@[simp] theorem matsK_s {vs : List TV} {X : IV} {Y : Store} : matsK vs X Y = (mats vs Y).bind (matsK2 X) := id rfl
@[simp] theorem mats_cons {vs : List TV} : mats (v :: vs) st = (mat v st).bind (matsK vs) := id rfl
@[simp] theorem boolOf_bl {b : Bool} : boolOf (.v (.bl b)) = some b := id rfl
@[simp] theorem setSl_eq : setSl env i x = if i < env.sl.length then some { env with sl := env.sl.set i (some x), lm := env.lm.filter fun p => p.1 != i } else none := id rfl
def whlT (G : Orc) (me : FnDef) (t : E) : Env → Store → Res Bool := fun env st => (evE G me t env st).bind fun x st => match boolOf x with | some k => .ok k st | none => .bad
def whlTK  : TV → Store → Res Bool := fun x st => match boolOf x with | some k => .ok k st | none => .bad
@[simp] theorem whlTK_s  {X : TV} {Y : Store} : whlTK  X Y = oM (boolOf X) (fun k => .ok k Y) .bad := by unfold whlTK; cases boolOf X <;> rfl
theorem whlT_s : whlT G me t env st = (evE G me t env st).bind whlTK := rfl
@[simp] theorem s_whl : evS G me fu (.whl t b) env st = whlF (whlT G me t) (evSs G me fu b) fu env st := by simp only [evS]; rfl
def forT (G : Orc) (me : FnDef) (p : Pt) : Env → IV → Store → RS := fun env x st => (pat G me p (.v x) env st).quiet.run env RS.nx
theorem forT_s {X : Env} {Y : IV} {Z : Store} : forT G me p X Y Z = (pat G me p (.v Y) X Z).quiet.run X RS.nx := rfl
def forK (G : Orc) (me : FnDef) (fu : Nat) (p : Pt) (b : List S) (env : Env) : Sq → Store → RS := fun q st => forF q (forT G me p) (evSs G me fu b) q.xs env st
@[simp] theorem forK_s {G : Orc} {me : FnDef} {fu : Nat} {p : Pt} {b : List S} {env : Env} {X : Sq} {Y : Store} : forK G me fu p b env X Y = forF X (forT G me p) (evSs G me fu b) X.xs env Y := id rfl
@[simp] theorem s_for {it : It} : evS G me fu (.for_ p it b) env st = (evIt G me it env st).run env (forK G me fu p b env) := by simp only [evS]; rfl
end
set_option smartUnfolding false
section
variable {st : Store} {i j : Int} {b c : Bool} {x y : IV} {xs ys : List IV} {r : Nat} {ns : List Int}
@[simp] theorem bin_add : binM .add (.v (.int i)) (.v (.int j)) st = .ok (.v (.int (i + j))) st := id rfl
@[simp] theorem bin_sub : binM .sub (.v (.int i)) (.v (.int j)) st = .ok (.v (.int (i - j))) st := id rfl
@[simp] theorem bin_mul : binM .mul (.v (.int i)) (.v (.int j)) st = if small i || small j then .ok (.v (.int (i * j))) st else .bad := id rfl
@[simp] theorem bin_fdiv : binM .fdiv (.v (.int i)) (.v (.int j)) st = if 0 < j ∧ j < 1073741824 then .ok (.v (.int (i / j))) st else .bad := id rfl
@[simp] theorem bin_mod : binM .mod (.v (.int i)) (.v (.int j)) st = if 0 < j then .ok (.v (.int (i % j))) st else .bad := id rfl
@[simp] theorem bin_pow : binM .pow (.v (.int i)) (.v (.int j)) st = if 0 ≤ j ∧ j ≤ 1000 ∧ small i then .ok (.v (.int (i ^ j.toNat))) st else .bad := id rfl
@[simp] theorem bin_addT : binM .add (.v (.tup xs)) (.v (.tup ys)) st = if xs.length + ys.length ≤ lineN then .ok (.v (.tup (xs ++ ys))) st else .bad := id rfl
@[simp] theorem cmp_lt : cmpM .lt (.v (.int i)) (.v (.int j)) st = .ok (.v (.bl (decide (i < j)))) st := id rfl
@[simp] theorem cmp_ltT {xs ys : List IV} {ns ms : List Int} (h : asInts xs = some ns) (h2 : asInts ys = some ms) : cmpM .lt (.v (.tup xs)) (.v (.tup ys)) st = .ok (.v (.bl (HT.lexLt ns ms))) st := by
  simp only [cmpM, ltM, h, h2]
theorem cmp_ltD {xs ys : List IV} (h : asInts xs = none) (m : mixTs xs ys = true) (p : IV.plains xs = true) (q : IV.plains ys = true) (d : IV.deps xs ≤ 60) : cmpM .lt (.v (.tup xs)) (.v (.tup ys)) st = .ok (.v (.bl (dLt (.tup xs) (.tup ys)))) st := by
  simp only [cmpM, ltM, h, m, p, q, d, Bool.and_self, decide_true, if_true]
@[simp] theorem cmp_le : cmpM .le (.v (.int i)) (.v (.int j)) st = .ok (.v (.bl (decide (i ≤ j)))) st := id rfl
@[simp] theorem cmp_gt : cmpM .gt (.v (.int i)) (.v (.int j)) st = .ok (.v (.bl (decide (j < i)))) st := id rfl
@[simp] theorem cmp_ge : cmpM .ge (.v (.int i)) (.v (.int j)) st = .ok (.v (.bl (decide (j ≤ i)))) st := id rfl
@[simp] theorem cmp_eq {v w : TV} : cmpM .eq v w st = oM (eqM v w st) (fun b => .ok (.v (.bl b)) st) .bad := id rfl
@[simp] theorem cmp_ne {v w : TV} : cmpM .ne v w st = oM (eqM v w st) (fun b => .ok (.v (.bl (!b))) st) .bad := id rfl
@[simp] theorem cmp_in {v w : TV} : cmpM .inn v w st = oM (inM v w st) (fun b => .ok (.v (.bl b)) st) .bad := id rfl
@[simp] theorem cmp_nin {v w : TV} : cmpM .nin v w st = oM (inM v w st) (fun b => .ok (.v (.bl (!b))) st) .bad := id rfl
@[simp] theorem bi_int : biM .int [.v (.int i)] st = .ok (.v (.int i)) st := id rfl
@[simp] theorem bi_intb : biM .int [.v (.bl b)] st = .ok (.v (.int (if b then 1 else 0))) st := id rfl
@[simp] theorem bi_len {v : TV} : biM .len [v] st = oM (lenOf st v) (fun n => .ok (.v (.int n)) st) .bad := id rfl
@[simp] theorem bi_tup {v : TV} : biM .tuple [v] st = oM (itemsLT st v) (fun xs => .ok (.v (.tup xs)) st) .bad := by
  cases v <;> first | rfl | (rename_i w; cases w <;> rfl)
@[simp] theorem bi_list {v : TV} : biM .list [v] st = oM (itemsLT st v) (fun xs => .ok (.l xs) st) .bad := id rfl
@[simp] theorem bi_sum {v : TV} : biM .sum [v] st = oM ((itemsL st v).bind asInts) (fun ns => .ok (.v (.int ns.sum)) st) .bad := id rfl
@[simp] theorem bi_all {v : TV} : biM .all [v] st = oM ((itemsL st v).bind asBools) (fun bs => .ok (.v (.bl (bs.all id))) st) .bad := id rfl
@[simp] theorem bi_any {v : TV} : biM .any [v] st = oM ((itemsL st v).bind asBools) (fun bs => .ok (.v (.bl (bs.any id))) st) .bad := id rfl
@[simp] theorem bi_max : biM .max2 [.v (.int i), .v (.int j)] st = .ok (.v (.int (if j > i then j else i))) st := id rfl
@[simp] theorem bi_min : biM .min2 [.v (.int i), .v (.int j)] st = .ok (.v (.int (if j < i then j else i))) st := id rfl
@[simp] theorem idx_tup : idxM (.v (.tup xs)) (.v (.int i)) st = oM (atN xs.length i) (fun k => (oM (xs[k]?) (fun z => .ok (.v z) st) .bad)) .bad := id rfl
@[simp] theorem idx_frz : idxM (.v (.frz ns)) (.v (.int i)) st = oM (atN ns.length i) (fun k => (oM (ns[k]?) (fun z => .ok (.v (.int z)) st) .bad)) .bad := by
  show (oM (atN (ns.map IV.int).length i) (fun k => (oM ((ns.map IV.int)[k]?) (fun z => Res.ok (TV.v z) st) .bad)) .bad) = _
  rw [List.length_map]
  cases atN ns.length i with
  | none => rfl
  | some k =>
    simp only [List.getElem?_map, oM_some]
    cases ns[k]? <;> rfl
@[simp] theorem idx_l : idxM (.l xs) (.v (.int i)) st = oM (atN xs.length i) (fun k => (oM (xs[k]?) (fun z => .ok (.v z) st) .bad)) .bad := id rfl
theorem idx_ref (h : st[r]? = some (.lst xs)) : idxM (.v (.ref r)) (.v (.int i)) st = oM (atN xs.length i) (fun k => (oM (xs[k]?) (fun z => .ok (.v z) st) .bad)) .bad := by
  simp only [idxM, itemsLT, itemsL, h]
  rfl
@[simp] theorem atN_pos {n : Nat} (h0 : 0 ≤ i) (h1 : i < n) : atN n i = some i.toNat := by unfold atN; rw [if_pos h0, if_pos h1]
@[simp] theorem atN_neg {n : Nat} (h0 : i < 0) (h1 : -(n : Int) ≤ i) : atN n i = some (i + n).toNat := by unfold atN; rw [if_neg (by omega), if_pos h1]
@[simp] theorem items_tup : itemsLT st (.v (.tup xs)) = some xs := id rfl
@[simp] theorem items_l : itemsLT st (.l xs) = some xs := id rfl
@[simp] theorem itemsL_l : itemsL st (.l xs) = some xs := id rfl
@[simp] theorem itemsM_l : itemsM st (.l xs) = some xs := id rfl
theorem items_ref (h : st[r]? = some (.lst xs)) : itemsLT st (.v (.ref r)) = some xs := by simp [itemsLT, itemsL, h]
theorem itemsL_ref (h : st[r]? = some (.lst xs)) : itemsL st (.v (.ref r)) = some xs := by simp [itemsL, h]
theorem itemsM_ref (h : st[r]? = some (.lst xs)) : itemsM st (.v (.ref r)) = some xs := by simp [itemsM, h]
@[simp] theorem len_tup : lenOf st (.v (.tup xs)) = some xs.length := id rfl
@[simp] theorem len_l : lenOf st (.l xs) = some xs.length := id rfl
@[simp] theorem len_frz : lenOf st (.v (.frz ns)) = some ns.length := by simp [lenOf, itemsLT, itemsL]
theorem len_ref (h : st[r]? = some (.lst xs)) : lenOf st (.v (.ref r)) = some xs.length := by simp [lenOf, itemsLT, itemsL, h]
@[simp] theorem unpack_tup {n : Nat} : unpack st (.v (.tup xs)) n = if xs.length = n then some xs else none := id rfl
@[simp] theorem sq_tup : sqOf st (.v (.tup xs)) = some ⟨xs, none⟩ := id rfl
@[simp] theorem sq_l : sqOf st (.l xs) = some ⟨xs, none⟩ := id rfl
theorem sq_ref (h : st[r]? = some (.lst xs)) : sqOf st (.v (.ref r)) = some ⟨xs, some r⟩ := by simp [sqOf, h]
@[simp] theorem stays_none : (Sq.mk xs none).stays st = true := id rfl
end
set_option smartUnfolding true
/-- a suite that does not return is not spoken of -/
def rtOf : RS → RS
  | .rt v st => .rt v st
  | _ => .bad
@[simp] theorem rtOf_rt {v : TV} {st : Store} : rtOf (.rt v st) = .rt v st := id rfl
section
variable {G : Orc} {me : FnDef} {fu : Nat} {env : Env} {st : Store} {e t e1 e2 : E}
@[simp] theorem s_raise0 {c : Nat} {nm : Str} : evS G me fu (.raise c nm []) env st = .exc ⟨c, none⟩ env st := by simp only [evS, evEs, run_ok]
@[simp] theorem e_slN : evE G me (.sl e .nob .nob) env st = (evE G me e env st).bind slNK := by simp [evE, isNob]; rfl
theorem nob_nob : isNob .nob = true := rfl
theorem e_slL (h : isNob e1 = false) : evE G me (.sl e e1 .nob) env st = (evE G me e env st).bind (slLK G me e1 env) := by simp only [evE, h, nob_nob, Bool.false_eq_true, if_false, if_true, bind_ok]; rfl
theorem e_slH (h : isNob e1 = false) : evE G me (.sl e .nob e1) env st = (evE G me e env st).bind (slHK G me e1 env) := by simp only [evE, h, nob_nob, Bool.false_eq_true, if_false, if_true, bind_ok]; rfl
theorem e_slB (h : isNob e1 = false) (h2 : isNob e2 = false) : evE G me (.sl e e1 e2) env st = (evE G me e env st).bind (slBK G me e1 e2 env) := by simp only [evE, h, h2, Bool.false_eq_true, if_false]; rfl
@[simp] theorem or_cons {v : TV} {es : List E} : evOr G me v (e :: es) env st = oB (boolOf v) (fun st => .ok (.v (.bl true)) st) (fun st => (evE G me e env st).bind (orK G me es env)) (fun _ => .bad) st := by
  simp only [evOr]; rcases boolOf v with _ | (_ | _) <;> rfl
@[simp] theorem ifs_cons {es : List E} : evIfs G me (e :: es) env st = (evE G me e env st).bind (ifsK G me es env) := by
  simp only [evIfs]; rfl
@[simp] theorem e_act : evE G me .act env st = actM G me env st := by simp only [evE]
@[simp] theorem e_wlit {k : Nat} : evE G me (.wlit k) env st = wrun G me k env st := by simp only [evE]
def watK (G : Orc) (me : FnDef) (ks : List Nat) (env : Env) : TV → Store → Res TV := fun y st => match y with
        | .v (.int j) => (match atN ks.length j with
          | some p => (match ks[p]? with | some k => wrun G me k env st | none => .bad)
          | none => .bad)
        | _ => .bad
@[simp] theorem watK_s {ks : List Nat} {j : Int} : watK G me ks env (.v (.int j)) st = oM (atN ks.length j) (fun p => oM (ks[p]?) (fun k => wrun G me k env st) .bad) .bad := by
  simp only [watK]
  cases h : atN ks.length j with
  | none => rfl
  | some p => simp only [oM_some]; cases h2 : ks[p]? <;> simp only [oM_some, oM_none]
@[simp] theorem lk_cons {β : Type} {k j : Nat} {b : β} {l : List (Nat × β)} : List.lookup k ((j, b) :: l) = if k = j then some b else List.lookup k l := by
  rw [List.lookup_cons]
  by_cases h : k = j
  · simp [h]
  · simp [h, beq_eq_false_iff_ne.mpr h]
theorem wrun_s {k : Nat} : wrun G me k env st = oM (me.ws.lookup k) (fun q => oM (capsOf env q.2) (fun xs => gc st (G q.1 xs st)) .bad) .bad := by
  unfold wrun
  cases h : me.ws.lookup k with
  | none => rfl
  | some q => obtain ⟨fd, js⟩ := q; simp only [oM_some]; cases h2 : capsOf env js <;> simp only [oM_some, oM_none]
theorem actM_s {k : Nat} {fd : FnDef} {js : List Nat} (h : me.ws = [(k, fd, js)]) : actM G me env st = oM (capsOf env js) (fun xs => gc st (G fd (List.replicate (fd.np - xs.length) (.int 0) ++ xs) st)) .bad := by
  unfold actM
  rw [h]
  cases h2 : capsOf env js <;> simp only [oM_some, oM_none, h2]
@[simp] theorem caps_nil : capsOf env [] = some [] := by simp only [capsOf]
@[simp] theorem caps_cons {j : Nat} {js : List Nat} {x : IV} (h : env.sl[j]? = some (some x)) : capsOf env (j :: js) = (capsOf env js).map (x :: ·) := by simp only [capsOf, h]
@[simp] theorem e_wat {i : Nat} : evE G me (.wat i e) env st = oM (env.lm.lookup i) (fun ks => (evE G me e env st).bind (watK G me ks env)) .bad := by
  simp only [evE]
  cases env.lm.lookup i <;> rfl
@[simp] theorem e_hIs {c : Nat} {nm : Str} {x : Exn} (h : env.hx = some x) : evE G me (.hIs c nm) env st = .ok (.v (.bl (decide (x.cls = c)))) st := by simp only [evE, h]
/-- the end of a try whose error is caught -/
def tryK (c : Nat) (f : Exn → Env → Store → RS) : RS → RS
  | .exc e env1 st1 => if c = e.cls ∨ c = 0 then f e env1 st1 else .exc e env1 st1
  | r => r
def hndK (G : Orc) (me : FnDef) (fu : Nat) (slot : Nat) (h : List S) : Exn → Env → Store → RS := fun e env1 st1 => if slot < env1.sl.length then rtOf (evSs G me fu h { sl := env1.sl.set slot none, hx := some e } st1) else .bad
def hndO (G : Orc) (me : FnDef) (fu : Nat) (h : List S) : Exn → Env → Store → RS := fun e env1 st1 => rtOf (evSs G me fu h { sl := env1.sl, hx := some e } st1)
@[simp] theorem hndK_s {slot : Nat} {h : List S} {x : Exn} : hndK G me fu slot h x env st = if slot < env.sl.length then rtOf (evSs G me fu h { sl := env.sl.set slot none, hx := some x } st) else .bad := id rfl
@[simp] theorem hndO_s {h : List S} {x : Exn} : hndO G me fu h x env st = rtOf (evSs G me fu h { sl := env.sl, hx := some x } st) := id rfl
@[simp] theorem tryK_exc {c : Nat} {f : Exn → Env → Store → RS} {x : Exn} : tryK c f (.exc x env st) = if c = x.cls ∨ c = 0 then f x env st else .exc x env st := id rfl
@[simp] theorem tryK_nx {c : Nat} {f : Exn → Env → Store → RS} : tryK c f (.nx env st) = .nx env st := id rfl
@[simp] theorem tryK_rt {c : Nat} {f : Exn → Env → Store → RS} {v : TV} : tryK c f (.rt v st) = .rt v st := id rfl
@[simp] theorem s_try_ {b h : List S} {c : Nat} {nm : Str} {slot : Nat} : evS G me fu (.try_ b c nm slot h) env st = tryK c (hndK G me fu slot h) (evSs G me fu b env st) := by
  simp only [evS]
  cases evSs G me fu b env st <;> rfl
@[simp] theorem s_tryO_ {b h : List S} {c : Nat} {nm : Str} : evS G me fu (.tryO b c nm h) env st = tryK c (hndO G me fu h) (evSs G me fu b env st) := by
  simp only [evS]
  cases evSs G me fu b env st <;> rfl
@[simp] theorem s_lamsF {i : Nat} {ks : List Nat} : evS G me fu (.lams i false ks) env st = if i < env.sl.length then .nx { env with sl := env.sl.set i none, lm := (i, ks) :: env.lm.filter fun p => p.1 != i } st else .bad := by simp only [evS]
@[simp] theorem s_lamsT {i : Nat} {ks ks0 : List Nat} (h : env.lm.lookup i = some ks0) : evS G me fu (.lams i true ks) env st = if i < env.sl.length then if ks0.length + ks.length ≤ 100 then .nx { env with sl := env.sl.set i none, lm := (i, ks0 ++ ks) :: env.lm.filter fun p => p.1 != i } st else .bad else .bad := by simp only [evS, h]
@[simp] theorem asInt_s {i : Int} : asInt (.v (.int i)) st = .ok (some i) st := id rfl
end
@[simp] theorem lineN_eq : lineN = 16777216 := id rfl
theorem call_go {fu n : Nat} {fd : FnDef} {xs : List IV} {st : Store} (h : xs.length = fd.np) : callM fu (n + 1) fd xs st = exitF (evSs (callM fu n) fd fu fd.body (startE fd xs) st) := if_pos h
theorem mats_v (st : Store) : ∀ l : List IV, mats (l.map .v) st = .ok l st
  | [] => rfl
  | a :: l => by simp only [List.map_cons, mats, mat, Res.bind, mats_v st l]
@[simp] theorem low_frz (n : Nat) (ns : List Int) : (IV.frz ns).low n = true := id rfl
@[simp] theorem low_int (n : Nat) (i : Int) : (IV.int i).low n = true := id rfl
@[simp] theorem low_bl (n : Nat) (i : Bool) : (IV.bl i).low n = true := id rfl
@[simp] theorem low_str (n : Nat) (i : Str) : (IV.str i).low n = true := id rfl
@[simp] theorem low_non (n : Nat) : (IV.non).low n = true := id rfl
mutual
theorem low_plain (n : Nat) : ∀ {x : IV}, x.plain = true → x.low n = true
  | .non, _ => rfl
  | .bl _, _ => rfl
  | .int _, _ => rfl
  | .str _, _ => rfl
  | .frz _, _ => rfl
  | .tup xs, h => by simp only [IV.plain] at h; simp only [IV.low]; exact lows_plain n h
  | .ref _, h => by simp [IV.plain] at h
theorem lows_plain (n : Nat) : ∀ {x : List IV}, IV.plains x = true → IV.lows n x = true
  | [], _ => rfl
  | x :: xs, h => by
    simp only [IV.plains, Bool.and_eq_true] at h
    simp only [IV.lows, Bool.and_eq_true]
    exact ⟨low_plain n h.1, lows_plain n h.2⟩
end
/-- one old object may be another, free of new refs; new ones come behind -/
theorem okPre_put (n : Nat) {o : IO} (h : o.low n = true) : ∀ (s t : Store) (r : Nat), okPre n s (s.set r o ++ t) = true
  | [], _, _ => rfl
  | a :: s, t, 0 => by
    simp only [List.set_cons_zero, List.cons_append, okPre, h, Bool.or_true, Bool.true_and]
    exact okPre_app n s t
  | a :: s, t, r + 1 => by
    simp only [List.set_cons_succ, List.cons_append, okPre, IO.eqb_rfl, Bool.true_or, Bool.true_and]
    exact okPre_put n h s t r
/-- a call whose value holds nothing new; temporaries go, one old object may be written -/
theorem call_put {G : Orc} {fd : FnDef} {vs : List TV} {xs : List IV} {st t t' : Store} {r : Nat} {o : IO} {y : IV} (hm : mats vs st = .ok xs (st ++ t)) (hG : G fd xs (st ++ t) = .ok (.v y) (st.set r o ++ t')) (ho : o.low st.length = true) (hy : y.low st.length = true) :
    callWith G fd vs st = .ok (.v y) (st.set r o) := by
  unfold callWith
  rw [hm]
  simp only [Res.bind, hG, gc, okPre_put _ ho, if_true]
  have : gcV st.length (st.set r o ++ t') (.v y) = some (.v y) := by cases y <;> simp_all [gcV, IV.low]
  simp only [this]
  rw [List.take_left' (by simp)]
/-- .. and a call that writes nothing -/
theorem call_same {G : Orc} {fd : FnDef} {vs : List TV} {xs : List IV} {st t t' : Store} {y : IV} (hm : mats vs st = .ok xs (st ++ t)) (hG : G fd xs (st ++ t) = .ok (.v y) (st ++ t')) (hy : y.low st.length = true) :
    callWith G fd vs st = .ok (.v y) st := by
  unfold callWith
  rw [hm]
  simp only [Res.bind, hG, gc, okPre_app, if_true]
  have : gcV st.length (st ++ t') (.v y) = some (.v y) := by cases y <;> simp_all [gcV, IV.low]
  simp only [this]
  rw [List.take_left' rfl]
theorem call_samel {G : Orc} {fd : FnDef} {vs : List TV} {xs : List IV} {st t t' : Store} {y : List IV} (hm : mats vs st = .ok xs (st ++ t)) (hG : G fd xs (st ++ t) = .ok (.l y) (st ++ t')) (hy : IV.lows st.length y = true) :
    callWith G fd vs st = .ok (.l y) st := by
  unfold callWith
  rw [hm]
  simp only [Res.bind, hG, gc, okPre_app, if_true, gcV, hy, List.take_left' rfl]
theorem call_exc {G : Orc} {fd : FnDef} {vs : List TV} {xs : List IV} {st t t' : Store} {e : Exn} (hm : mats vs st = .ok xs (st ++ t)) (hG : G fd xs (st ++ t) = .exc e (st ++ t')) (he : lowO st.length e.val = true) :
    callWith G fd vs st = .exc e st := by
  unfold callWith
  rw [hm]
  simp only [Res.bind, hG, gc, okPre_app, he, Bool.and_self, if_true, List.take_left' rfl]

theorem gcV_v {n : Nat} {st : Store} {y : IV} (hy : y.low n = true) : gcV n st (.v y) = some (.v y) := by cases y <;> simp_all [gcV, IV.low]
theorem gc_put {st t : Store} {r : Nat} {o : IO} {y : IV} (ho : o.low st.length = true) (hy : y.low st.length = true) : gc st (.ok (.v y) (st.set r o ++ t)) = .ok (.v y) (st.set r o) := by
  simp only [gc, okPre_put _ ho, if_true, gcV_v hy]
  rw [List.take_left' (by simp)]
theorem gc_same {st t : Store} {y : IV} (hy : y.low st.length = true) : gc st (.ok (.v y) (st ++ t)) = .ok (.v y) st := by
  simp only [gc, okPre_app, if_true, gcV_v hy]
  rw [List.take_left' rfl]
theorem gc_putx {st t : Store} {r : Nat} {o : IO} {e : Exn} (ho : o.low st.length = true) (he : lowO st.length e.val = true) : gc st (.exc e (st.set r o ++ t)) = .exc e (st.set r o) := by
  simp only [gc, okPre_put _ ho, he, Bool.and_self, if_true]
  rw [List.take_left' (by simp)]
theorem gc_samex {st t : Store} {e : Exn} (he : lowO st.length e.val = true) : gc st (.exc e (st ++ t)) = .exc e st := by
  simp only [gc, okPre_app, he, Bool.and_self, if_true]
  rw [List.take_left' rfl]
/-! ### draws -/
structure Row where
  ns : List Int
  i : Int
  s : Int
  c : Int
  hi : 0 ≤ i
  hs : 0 ≤ s
  hs2 : s < 2147483647
  hc : 0 ≤ c
def Row.io (w : Row) : IO := .lst [.frz w.ns, .int w.i, .int w.s, .int w.c]
theorem Row.low (w : Row) (n : Nat) : w.io.low n = true := rfl
end MP.Lw

set_option linter.all false
set_option autoImplicit false
set_option Elab.async false
set_option maxRecDepth 100000
namespace MP.Lw
open PySem
/-! ### loops -/
section
variable {t : Env → Store → Res Bool} {body : Env → Store → RS} {K : Env → Store → RS} {R : Res TV}
theorem whl_inv (I : Nat → Env → Store → Prop) (J : Env → Store → Prop) (h : ∀ k env st, I k env st → (t env st = .ok false st ∧ J env st) ∨ (t env st = .ok true st ∧ ∃ k' env' st', k = k' + 1 ∧ body env st = .nx env' st' ∧ I k' env' st')) :
    ∀ (n k : Nat) (env : Env) (st : Store), k < n → I k env st → ∃ env' st', whlF t body n env st = .nx env' st' ∧ J env' st'
  | 0, k, env, st, hk, _ => by omega
  | n + 1, k, env, st, hk, hI => by
    rcases h k env st hI with ⟨h1, h2⟩ | ⟨h1, k', env', st', rfl, h3, h4⟩
    · exact ⟨env, st, by simp [whlF, h1], h2⟩
    · obtain ⟨e2, s2, q1, q2⟩ := whl_inv I J h n k' env' st' (by omega) h4
      exact ⟨e2, s2, by simp [whlF, h1, h3, q1], q2⟩
theorem whl_bw (I : Nat → Env → Store → Prop) (J : Env → Store → Prop) {n k : Nat} {env : Env} {st : Store} (hk : k < n) (hI : I k env st)
    (h : ∀ k env st, I k env st → (t env st = .ok false st ∧ J env st) ∨ (t env st = .ok true st ∧ ∃ k' env' st', k = k' + 1 ∧ body env st = .nx env' st' ∧ I k' env' st')) (fin : ∀ env' st', J env' st' → exitF (K env' st') = R) : exitF ((whlF t body n env st).next K) = R := by
  obtain ⟨env', st', q1, q2⟩ := whl_inv I J h n k env st hk hI
  rw [q1]
  exact fin _ _ q2
end
section
variable {q : Sq} {env : Env} {tgt : Env → IV → Store → Res Env} {ifs : Env → Store → Res Bool} {elt : Env → Store → Res TV} {st : Store}
/-- a comprehension that writes nothing -/
theorem comp_pure (p : IV → Bool) (g : IV → IV) (hs : q.stays st = true) : ∀ (xs acc : List IV), (∀ x ∈ xs, ∃ env1, tgt env x st = .ok env1 st ∧ ifs env1 st = .ok (p x) st ∧ (p x = true → elt env1 st = .ok (.v (g x)) st)) → acc.length + xs.length ≤ lineN →
    compF q env tgt ifs elt xs acc st = .ok (.l (acc ++ (xs.filter p).map g)) st
  | [], acc, _, _ => by simp [compF, hs]
  | x :: xs, acc, h, hl => by
    obtain ⟨env1, h1, h2, h3⟩ := h x List.mem_cons_self
    simp only [List.length_cons] at hl
    simp only [compF, hs, if_true, h1, quiet_ok, bind_ok, h2]
    cases hp : p x with
    | false =>
      simp only [Bool.false_eq_true, if_false]
      rw [comp_pure p g hs xs acc (fun y hy => h y (List.mem_cons_of_mem _ hy)) (by omega), List.filter_cons_of_neg (by simp [hp])]
    | true =>
      rw [List.filter_cons_of_pos hp]
      have lt : acc.length < lineN := by omega
      simp only [if_true, h3 hp, quiet_ok, bind_ok, mat_v, lt]
      rw [comp_pure p g hs xs _ (fun y hy => h y (List.mem_cons_of_mem _ hy)) (by rw [List.length_append, List.length_singleton]; omega), List.append_assoc]
      rfl
theorem comp_filt (p : IV → Bool) (hs : q.stays st = true) {xs : List IV} (h : ∀ x ∈ xs, ∃ env1, tgt env x st = .ok env1 st ∧ ifs env1 st = .ok (p x) st ∧ (p x = true → elt env1 st = .ok (.v x) st)) (hl : xs.length ≤ lineN) :
    compF q env tgt ifs elt xs [] st = .ok (.l (xs.filter p)) st := by
  rw [comp_pure p (fun x => x) hs xs [] h (by simpa using hl), List.nil_append]
  exact congrArg (fun z => Res.ok (TV.l z) st) (List.map_id _)
/-- .. with an invariant, each item giving one value -/
theorem comp_inv (I : List IV → Store → Prop) (hq : ∀ st, q.stays st = true) : ∀ (xs acc : List IV) (st : Store), I acc st → (∀ x ∈ xs, ∀ acc st, I acc st → ∃ env1 y st', tgt env x st = .ok env1 st ∧ ifs env1 st = .ok true st ∧ elt env1 st = .ok (.v y) st' ∧ I (acc ++ [y]) st') → acc.length + xs.length ≤ lineN →
    ∃ ys st', compF q env tgt ifs elt xs acc st = .ok (.l (acc ++ ys)) st' ∧ ys.length = xs.length ∧ I (acc ++ ys) st'
  | [], acc, st, hI, _, _ => ⟨[], st, by simp [compF, hq], rfl, by simpa using hI⟩
  | x :: xs, acc, st, hI, h, hl => by
    obtain ⟨env1, y, st', h1, h2, h3, h4⟩ := h x List.mem_cons_self acc st hI
    simp only [List.length_cons] at hl
    obtain ⟨ys, st2, q1, q2, q3⟩ := comp_inv I hq xs (acc ++ [y]) st' h4 (fun z hz => h z (List.mem_cons_of_mem _ hz)) (by rw [List.length_append, List.length_singleton]; omega)
    refine ⟨y :: ys, st2, ?_, by simp [q2], by simpa using q3⟩
    have lt : acc.length < lineN := by omega
    simp only [compF, hq, if_true, h1, quiet_ok, bind_ok, h2, h3, mat_v, lt, q1]
    simp
end
section
variable {q : Sq} {tgt : Env → IV → Store → RS} {body : Env → Store → RS} {K : Env → Store → RS} {R : Res TV}
/-- a for that runs to its end -/
theorem for_inv (I : List IV → Env → Store → Prop) (hq : ∀ x env st, I x env st → q.stays st = true) (h : ∀ x xs env st, I (x :: xs) env st → ∃ env1 env2 st2, tgt env x st = .nx env1 st ∧ (body env1 st = .nx env2 st2 ∨ body env1 st = .ct env2 st2) ∧ I xs env2 st2) :
    ∀ (xs : List IV) (env : Env) (st : Store), I xs env st → ∃ env' st', forF q tgt body xs env st = .nx env' st' ∧ I [] env' st'
  | [], env, st, hI => ⟨env, st, by simp [forF, hq _ _ _ hI], hI⟩
  | x :: xs, env, st, hI => by
    obtain ⟨env1, env2, st2, h1, h2, h3⟩ := h x xs env st hI
    obtain ⟨e, s, q1, q2⟩ := for_inv I hq h xs env2 st2 h3
    refine ⟨e, s, ?_, q2⟩
    rcases h2 with h2 | h2 <;> simp only [forF, hq _ _ _ hI, if_true, h1, next_nx, h2, q1]
theorem for_bw (I : List IV → Env → Store → Prop) {xs : List IV} {env : Env} {st : Store} (hI : I xs env st) (hq : ∀ x env st, I x env st → q.stays st = true)
    (h : ∀ x xs env st, I (x :: xs) env st → ∃ env1 env2 st2, tgt env x st = .nx env1 st ∧ (body env1 st = .nx env2 st2 ∨ body env1 st = .ct env2 st2) ∧ I xs env2 st2) (fin : ∀ env' st', I [] env' st' → exitF (K env' st') = R) : exitF ((forF q tgt body xs env st).next K) = R := by
  obtain ⟨env', st', q1, q2⟩ := for_inv I hq h xs env st hI
  rw [q1]
  exact fin _ _ q2
/-- a for whose turns may end the def: the first item at which it does -/
theorem for_ret (p : IV → Bool) (r : IV → TV) (E1 : Env) (env1 : IV → Env) {st : Store} (hq : q.stays st = true) : ∀ (xs : List IV) (env : Env), (∀ x ∈ xs, ∀ env, (env = E1 ∨ ∃ y, env = env1 y) → tgt env x st = .nx (env1 x) st ∧ ((p x = false ∧ body (env1 x) st = .nx (env1 x) st) ∨ (p x = true ∧ body (env1 x) st = .rt (r x) st))) → (env = E1 ∨ ∃ y, env = env1 y) →
    (∃ x, xs.find? p = some x ∧ forF q tgt body xs env st = .rt (r x) st) ∨ (xs.find? p = none ∧ ∃ env', (env' = E1 ∨ ∃ y, env' = env1 y) ∧ forF q tgt body xs env st = .nx env' st)
  | [], env, _, he => .inr ⟨rfl, env, he, by simp [forF, hq]⟩
  | x :: xs, env, h, he => by
    obtain ⟨h1, h2⟩ := h x List.mem_cons_self env he
    rcases h2 with ⟨hp, h2⟩ | ⟨hp, h2⟩
    · rcases for_ret p r E1 env1 hq xs (env1 x) (fun y hy => h y (List.mem_cons_of_mem _ hy)) (.inr ⟨x, rfl⟩) with ⟨y, q1, q2⟩ | ⟨q1, env', q2, q3⟩
      · exact .inl ⟨y, by simp [List.find?, hp, q1], by simp only [forF, hq, if_true, h1, next_nx, h2, q2]⟩
      · exact .inr ⟨by simp [List.find?, hp, q1], env', q2, by simp only [forF, hq, if_true, h1, next_nx, h2, q3]⟩
    · exact .inl ⟨x, by simp [List.find?, hp], by simp only [forF, hq, if_true, h1, next_nx, h2]⟩
end
end MP.Lw

set_option linter.all false
set_option autoImplicit false
set_option Elab.async false
set_option maxRecDepth 100000
set_option maxHeartbeats 1000000
namespace MP.Lw
open PySem
theorem taken_ok (fu n : Nat) (w : Row) (many : Int) (h1 : 0 < many) (h2 : many < 1073741824) : ∃ (v : Int) (w' : Row), 0 ≤ v ∧ v < many ∧ ∀ (st : Store) (r : Nat), st[r]? = some w.io → callM fu (n + 1) D_law_taken [.ref r, .int many] st = .ok (.v (.int v)) (st.set r w'.io) := by
  obtain ⟨ns, i, s, c, hi, hs, hs2, hc⟩ := w
  have e0 : ∀ x : Int, 0 ≤ x % many := fun x => Int.emod_nonneg x (by omega)
  have e1 : ∀ x : Int, x % many < many := fun x => Int.emod_lt_of_pos x h1
  by_cases q : c > 0
  · refine ⟨c % many, ⟨ns, i, s, c / many, hi, hs, hs2, Int.ediv_nonneg hc (by omega)⟩, e0 _, e1 _, fun st r hr => ?_⟩
    have hlt := (List.getElem?_eq_some_iff.mp hr).1
    rw [call_go rfl]
    simp only [Row.io] at hr
    simp [B_law_taken, startE, idx_ref hr, q, h1, h2, setIdx, hr, Row.io]
  · have c0 : c = 0 := by omega
    subst c0
    by_cases far : (ns.length : Int) < i + 1
    · refine ⟨((s * 48271 + 11) % 2147483647 / 7) % many, ⟨ns, i + 1, (s * 48271 + 11) % 2147483647, 0, by omega, by omega, by omega, by omega⟩, e0 _, e1 _, fun st r hr => ?_⟩
      have hlt := (List.getElem?_eq_some_iff.mp hr).1
      rw [call_go rfl]
      simp only [Row.io] at hr
      simp [B_law_taken, startE, hr, idx_ref hr, h1, h2, idx_ref (List.getElem?_set_self hlt), setIdx, Row.io, List.getElem?_set_self hlt, far, small]
    · have hk : i.toNat < ns.length := by omega
      have hki : i < (ns.length : Int) := by omega
      have hm : i + 1 - 1 = i := by omega
      have ha : atN ns.length i = some i.toNat := by simp [atN, hi, hki]
      by_cases gr : (1000000000000000000 : Int) ≤ ns[i.toNat]
      · refine ⟨ns[i.toNat] % many, ⟨ns, i + 1, (s * 48271 + ns[i.toNat] + 11) % 2147483647, ns[i.toNat] / many, by omega, by omega, by omega, Int.ediv_nonneg (by omega) (by omega)⟩, e0 _, e1 _, fun st r hr => ?_⟩
        have hlt := (List.getElem?_eq_some_iff.mp hr).1
        rw [call_go rfl]
        simp only [Row.io] at hr
        simp [B_law_taken, startE, hr, idx_ref hr, h1, h2, idx_ref (List.getElem?_set_self hlt), setIdx, Row.io, List.getElem?_set_self hlt, far, small, hm, ha, hk, gr]
      · refine ⟨ns[i.toNat] % many, ⟨ns, i + 1, (s * 48271 + ns[i.toNat] + 11) % 2147483647, 0, by omega, by omega, by omega, by omega⟩, e0 _, e1 _, fun st r hr => ?_⟩
        have hlt := (List.getElem?_eq_some_iff.mp hr).1
        rw [call_go rfl]
        simp only [Row.io] at hr
        simp [B_law_taken, startE, hr, idx_ref hr, h1, h2, idx_ref (List.getElem?_set_self hlt), setIdx, Row.io, List.getElem?_set_self hlt, far, small, hm, ha, hk, gr]
end MP.Lw

set_option linter.all false
set_option autoImplicit false
set_option Elab.async false
set_option maxRecDepth 100000
set_option maxHeartbeats 1000000
namespace MP.Lw
open PySem
def isInt : IV → Bool
  | .int _ => true
  | _ => false
def between (lo hi : Int) : IV → Bool
  | .int i => decide (lo ≤ i) && decide (i ≤ hi)
  | _ => false
theorem call_v {G : Orc} {fd : FnDef} {xs : List IV} {st : Store} {y : IV} (hG : G fd xs st = .ok (.v y) st) (hy : y.low st.length = true) : callWith G fd (xs.map .v) st = .ok (.v y) st :=
  call_same (t := []) (t' := []) (by rw [mats_v, List.append_nil]) (by rw [List.append_nil]; exact hG) hy
theorem call_x {G : Orc} {fd : FnDef} {xs : List IV} {st : Store} {c : Nat} (hG : G fd xs st = .exc ⟨c, none⟩ st) : callWith G fd (xs.map .v) st = .exc ⟨c, none⟩ st :=
  call_exc (t := []) (t' := []) (by rw [mats_v, List.append_nil]) (by rw [List.append_nil]; exact hG) rfl
/-- lists of the store count as data -/
def tyOf (st : Store) (x : IV) : Prop := ∃ t, tnOf st (.v x) = some t
theorem is_integer_ok {fu n : Nat} {x : IV} {st : Store} (hx : tyOf st x) : callWith (callM fu (n + 1)) D_is_integer [.v x] st = .ok (.v (.bl (isInt x))) st := by
  refine call_v (xs := [x]) ?_ rfl
  obtain ⟨t, ht⟩ := hx
  rw [call_go rfl]
  simp [B_is_integer, startE, isTys, ht]
  cases x <;> simp [tnOf] at ht <;> (try subst ht) <;> (try simp [tnIs, isInt])
  rename_i r
  cases h : st[r]? with
  | none => rw [h] at ht; cases ht
  | some o =>
    rw [h] at ht
    cases o <;> simp at ht
    subst ht
    simp [tnIs]
end MP.Lw

set_option linter.all false
set_option autoImplicit false
set_option Elab.async false
set_option maxRecDepth 100000
set_option maxHeartbeats 1000000
namespace MP.Lw
open PySem
theorem is_in_ok {fu n : Nat} {x : IV} {lo hi : Int} {st : Store} (hx : tyOf st x) : callWith (callM fu (n + 2)) D_is_in [.v x, .v (.int lo), .v (.int hi)] st = .ok (.v (.bl (between lo hi x))) st := by
  refine call_v (xs := [x, .int lo, .int hi]) ?_ rfl
  rw [call_go rfl]
  simp [B_is_in, startE, is_integer_ok hx]
  cases x <;> simp [isInt, between]
  rename_i i
  by_cases h : lo ≤ i <;> simp [h]
theorem is_word_ok {fu n : Nat} {x : IV} {st : Store} (hx : tyOf st x) : callWith (callM fu (n + 3)) D_is_word [.v x] st = .ok (.v (.bl (between 0 65535 x))) st := by
  refine call_v (xs := [x]) ?_ rfl
  rw [call_go rfl]
  simp [B_is_word, startE, is_in_ok hx]
theorem need_word_ok {fu n : Nat} {x : IV} {st : Store} (hx : tyOf st x) (h : between 0 65535 x = true) : callWith (callM fu (n + 4)) D_need_word [.v x] st = .ok (.v .non) st := by
  refine call_v (xs := [x]) ?_ rfl
  rw [call_go rfl]
  simp [B_need_word, startE, is_word_ok hx, h]
theorem need_word_no {fu n : Nat} {x : IV} {st : Store} (hx : tyOf st x) (h : between 0 65535 x = false) : callWith (callM fu (n + 4)) D_need_word [.v x] st = .exc ⟨2, none⟩ st := by
  refine call_x (xs := [x]) ?_
  rw [call_go rfl]
  simp [B_need_word, startE, is_word_ok hx, h]
theorem need_words_ok {fu n : Nat} {x y : IV} {st : Store} (hx : tyOf st x) (hy : tyOf st y) (h : between 0 65535 x = true) (h2 : between 0 65535 y = true) : callWith (callM fu (n + 5)) D_need_words [.v x, .v y] st = .ok (.v .non) st := by
  refine call_v (xs := [x, y]) ?_ rfl
  rw [call_go rfl]
  simp [B_need_words, startE, need_word_ok hx h, need_word_ok hy h2]
theorem need_words_no {fu n : Nat} {x y : IV} {st : Store} (hx : tyOf st x) (hy : tyOf st y) (h : (between 0 65535 x && between 0 65535 y) = false) : callWith (callM fu (n + 5)) D_need_words [.v x, .v y] st = .exc ⟨2, none⟩ st := by
  refine call_x (xs := [x, y]) ?_
  rw [call_go rfl]
  cases h1 : between 0 65535 x with
  | false => simp [B_need_words, startE, need_word_no hx h1]
  | true =>
    rw [h1] at h
    simp at h
    simp [B_need_words, startE, need_word_ok hx h1, need_word_no hy h]
@[simp] theorem ty_int {st : Store} {i : Int} : tyOf st (.int i) := ⟨_, rfl⟩
@[simp] theorem ty_non {st : Store} : tyOf st .non := ⟨_, rfl⟩
@[simp] theorem ty_bl {st : Store} {i : Bool} : tyOf st (.bl i) := ⟨_, rfl⟩
@[simp] theorem ty_str {st : Store} {i : Str} : tyOf st (.str i) := ⟨_, rfl⟩
@[simp] theorem ty_tup {st : Store} {i : List IV} : tyOf st (.tup i) := ⟨_, rfl⟩
@[simp] theorem between_int {lo hi i : Int} : between lo hi (.int i) = (decide (lo ≤ i) && decide (i ≤ hi)) := id rfl
theorem sum_of_ok {fu n : Nat} {a b : Int} {st : Store} : callWith (callM fu (n + 1)) D_sum_of [.v (.int a), .v (.int b)] st = .ok (.v (.int ((a + b) % 65536))) st := by
  refine call_v (xs := [.int a, .int b]) ?_ rfl
  rw [call_go rfl]
  simp [B_sum_of, startE]
theorem rest_of_ok {fu n : Nat} {a b : Int} {st : Store} : callWith (callM fu (n + 1)) D_rest_of [.v (.int a), .v (.int b)] st = .ok (.v (.int ((a - b) % 65536))) st := by
  refine call_v (xs := [.int a, .int b]) ?_ rfl
  rw [call_go rfl]
  simp [B_rest_of, startE]
theorem small_of {i : Int} (h : 0 ≤ i) (h2 : i < 65536) : small i = true := by
  unfold small; simp; omega
theorem product_of_ok {fu n : Nat} {a b : Int} {st : Store} (h : small a = true) : callWith (callM fu (n + 1)) D_product_of [.v (.int a), .v (.int b)] st = .ok (.v (.int ((a * b) % 65536))) st := by
  refine call_v (xs := [.int a, .int b]) ?_ rfl
  rw [call_go rfl]
  simp [B_product_of, startE, h]
theorem lesser_of_ok {fu n : Nat} {a b : Int} {st : Store} : callWith (callM fu (n + 1)) D_lesser_of [.v (.int a), .v (.int b)] st = .ok (.v (.int (if a < b then 1 else 0))) st := by
  refine call_v (xs := [.int a, .int b]) ?_ rfl
  rw [call_go rfl]
  by_cases h : a < b <;> simp [B_lesser_of, startE, h]
theorem word_ok {fu n : Nat} {a : Int} {st : Store} : callWith (callM fu (n + 2)) D_word [.v (.int a)] st = .ok (.v (.int (a % 65536))) st := by
  refine call_v (xs := [.int a]) ?_ rfl
  rw [call_go rfl]
  simp [B_word, startE, is_integer_ok (x := .int a) ty_int, isInt]
theorem word_no {fu n : Nat} {x : IV} {st : Store} (hx : tyOf st x) (h : isInt x = false) : callWith (callM fu (n + 2)) D_word [.v x] st = .exc ⟨1, none⟩ st := by
  refine call_x (xs := [x]) ?_
  rw [call_go rfl]
  simp [B_word, startE, is_integer_ok hx, h]
def isWord (i : Int) : Prop := 0 ≤ i ∧ i < 65536
theorem isWord.b {i : Int} (h : isWord i) : between 0 65535 (.int i) = true := by simp; unfold isWord at h; omega
section
variable {fu n : Nat} {a b : Int} {st : Store}
theorem added_ok (ha : isWord a) (hb : isWord b) : callWith (callM fu (n + 6)) D_added [.v (.int a), .v (.int b)] st = .ok (.v (.int ((a + b) % 65536))) st := by
  refine call_v (xs := [.int a, .int b]) ?_ rfl
  rw [call_go rfl]
  simp [B_added, startE, need_words_ok ty_int ty_int ha.b hb.b, sum_of_ok]
theorem less_by_ok (ha : isWord a) (hb : isWord b) : callWith (callM fu (n + 6)) D_less_by [.v (.int a), .v (.int b)] st = .ok (.v (.int ((a - b) % 65536))) st := by
  refine call_v (xs := [.int a, .int b]) ?_ rfl
  rw [call_go rfl]
  simp [B_less_by, startE, need_words_ok ty_int ty_int ha.b hb.b, rest_of_ok]
theorem times_ok (ha : isWord a) (hb : isWord b) : callWith (callM fu (n + 6)) D_times [.v (.int a), .v (.int b)] st = .ok (.v (.int ((a * b) % 65536))) st := by
  refine call_v (xs := [.int a, .int b]) ?_ rfl
  rw [call_go rfl]
  simp [B_times, startE, need_words_ok ty_int ty_int ha.b hb.b, product_of_ok (small_of ha.1 ha.2)]
theorem is_less_ok (ha : isWord a) (hb : isWord b) : callWith (callM fu (n + 6)) D_is_less [.v (.int a), .v (.int b)] st = .ok (.v (.int (if a < b then 1 else 0))) st := by
  refine call_v (xs := [.int a, .int b]) ?_ rfl
  rw [call_go rfl]
  simp [B_is_less, startE, need_words_ok ty_int ty_int ha.b hb.b, lesser_of_ok]
end
end MP.Lw

set_option linter.all false
set_option autoImplicit false
set_option Elab.async false
set_option maxRecDepth 100000
set_option maxHeartbeats 1000000
namespace MP.Lw
open PySem
/-! ### bits in common -/
def com : Nat → Int → Int → Int
  | 0, _, _ => 0
  | k + 1, a, b => (if a % 2 = 1 ∧ b % 2 = 1 then 1 else 0) + 2 * com k (a / 2) (b / 2)
theorem com_zero : ∀ (k : Nat) (b : Int), com k 0 b = 0
  | 0, _ => rfl
  | k + 1, b => by simp [com, com_zero k]
theorem com_zero' : ∀ (k : Nat) (b : Int), com k b 0 = 0
  | 0, _ => rfl
  | k + 1, b => by simp [com, com_zero' k]
theorem com_full : ∀ (k : Nat) (a : Int), 0 ≤ a → a < 2 ^ k → com k a (2 ^ k - 1) = a
  | 0, a, h, h2 => by simp [com] at *; omega
  | k + 1, a, h, h2 => by
    have e : ((2 : Int) ^ (k + 1) - 1) / 2 = 2 ^ k - 1 := by rw [Int.pow_succ]; omega
    have e2 : ((2 : Int) ^ (k + 1) - 1) % 2 = 1 := by rw [Int.pow_succ]; omega
    have := com_full k (a / 2) (by omega) (by rw [Int.pow_succ] at h2; omega)
    simp only [com, e, e2, this]
    by_cases q : a % 2 = 1 <;> simp [q] <;> omega
@[simp] theorem eq_int {i j : Int} {st : Store} : eqM (.v (.int i)) (.v (.int j)) st = some (decide (i = j)) := by
  simp [eqM, cont, IV.plain, Cont.dep, IV.dep, Cont.eq, pyEq]
  rfl
def comE (a b f c : Int) : Env := { sl := [some (.int a), some (.int b), some (.int f), some (.int c)] }
theorem common_of_ok {n : Nat} {a b : Int} {st : Store} (ha : isWord a) (hb : isWord b) : callWith (callM FUEL (n + 1)) D_common_of [.v (.int a), .v (.int b)] st = .ok (.v (.int (com 16 a b))) st := by
  refine call_v (xs := [.int a, .int b]) ?_ rfl
  rw [call_go rfl]
  simp [B_common_of, startE]
  refine whl_bw (fun k env st' => st' = st ∧ ∃ x y f c, env = comE x y f c ∧ 0 ≤ x ∧ 0 ≤ y ∧ x < 2 ^ k ∧ f + c * com k x y = com 16 a b) (fun env st' => st' = st ∧ ∃ x y c, env = comE x y (com 16 a b) c) (k := 16) (by decide) ⟨rfl, a, b, 0, 1, rfl, ha.1, hb.1, by have := ha.2; simp; omega, by simp⟩ ?_ ?_
  · rintro k env _ ⟨rfl, x, y, f, c, rfl, hx, hy, hlt, inv⟩
    by_cases q : 0 < x ∧ 0 < y
    · right
      cases k with
      | zero => simp at hlt; omega
      | succ k =>
        refine ⟨by simp [whlT_s, comE, q.1, q.2], k, comE (x / 2) (y / 2) (f + (if x % 2 = 1 ∧ y % 2 = 1 then c else 0)) (2 * c), _, rfl, ?_, rfl, _, _, _, _, rfl, by omega, by omega, by rw [Int.pow_succ] at hlt; omega, ?_⟩
        · by_cases h : x % 2 = 1 <;> by_cases h2 : y % 2 = 1 <;> simp [comE, h, h2, small]
        · rw [← inv]
          simp only [com]
          have e : 2 * c * com k (x / 2) (y / 2) = c * (2 * com k (x / 2) (y / 2)) := by rw [Int.mul_comm 2 c, Int.mul_assoc]
          rw [e]
          by_cases r : x % 2 = 1 ∧ y % 2 = 1
          · rw [if_pos r, if_pos r, Int.mul_add, Int.mul_one, Int.add_assoc]
          · rw [if_neg r, if_neg r, Int.zero_add, Int.add_zero]
    · left
      refine ⟨by by_cases h : 0 < x <;> simp [whlT_s, comE, h]; omega, rfl, x, y, c, ?_⟩
      have : com k x y = 0 := by
        by_cases z : x = 0
        · rw [z, com_zero]
        · have : y = 0 := by omega
          rw [this, com_zero']
      rw [this] at inv
      simp at inv
      rw [inv]
  · rintro env _ ⟨rfl, x, y, c, rfl⟩
    simp [comE]
end MP.Lw

set_option linter.all false
set_option autoImplicit false
set_option Elab.async false
set_option maxRecDepth 100000
set_option maxHeartbeats 1000000
namespace MP.Lw
open PySem
mutual
def _root_.MP.IV.fit : IV → Bool
  | .tup xs => decide (xs.length ≤ lineN) && IV.fits xs
  | _ => true
def _root_.MP.IV.fits : List IV → Bool
  | [] => true
  | x :: xs => IV.fit x && IV.fits xs
end
theorem plains_mem : ∀ {xs : List IV} {x : IV}, IV.plains xs = true → x ∈ xs → x.plain = true
  | y :: ys, x, h, m => by
    simp only [IV.plains, Bool.and_eq_true] at h
    rcases List.mem_cons.mp m with rfl | m
    · exact h.1
    · exact plains_mem h.2 m
theorem fits_mem : ∀ {xs : List IV} {x : IV}, IV.fits xs = true → x ∈ xs → x.fit = true
  | y :: ys, x, h, m => by
    simp only [IV.fits, Bool.and_eq_true] at h
    rcases List.mem_cons.mp m with rfl | m
    · exact h.1
    · exact fits_mem h.2 m
theorem deps_mem : ∀ {xs : List IV} {x : IV}, x ∈ xs → x.dep ≤ IV.deps xs
  | y :: ys, x, m => by
    simp only [IV.deps]
    rcases List.mem_cons.mp m with rfl | m
    · omega
    · have := deps_mem m; omega
@[simp] theorem wipe_env {sl : List (Option IV)} {hx : Option Exn} {lm : List (Nat × List Nat)} : ({ sl := sl, hx := hx, lm := lm } : Env).sl = sl := id rfl
theorem inB_nat {n : Nat} (h : n ≤ lineN) : inB (n : Int) = true := by
  unfold inB big; simp at h; simp; omega
mutual
theorem pyEq_rfl : ∀ {x : IV}, x.plain = true → pyEq x x = true
  | .non, _ => rfl
  | .bl _, _ => by simp [pyEq]
  | .int _, _ => by simp [pyEq]
  | .str _, _ => by simp [pyEq]
  | .tup xs, h => by simp only [IV.plain] at h; simp only [pyEq]; exact pyEqs_rfl h
  | .frz _, h => by simp [IV.plain] at h
  | .ref _, h => by simp [IV.plain] at h
theorem pyEqs_rfl : ∀ {x : List IV}, IV.plains x = true → pyEqs x x = true
  | [], _ => rfl
  | x :: xs, h => by
    simp only [IV.plains, Bool.and_eq_true] at h
    simp only [pyEqs, Bool.and_eq_true]
    exact ⟨pyEq_rfl h.1, pyEqs_rfl h.2⟩
end
theorem cont_plain {x : IV} {st : Store} (h : x.plain = true) : cont st (.v x) = some (.v x) := by
  cases x <;> simp_all [cont, IV.plain]
@[simp] theorem plain_non : IV.plain .non = true := by simp only [IV.plain, IV.plains, IV.dep, IV.deps]
@[simp] theorem plain_int {i : Int} : IV.plain (.int i) = true := by simp only [IV.plain, IV.plains, IV.dep, IV.deps]
@[simp] theorem plain_bl {i : Bool} : IV.plain (.bl i) = true := by simp only [IV.plain, IV.plains, IV.dep, IV.deps]
@[simp] theorem plain_tup {i : List IV} : IV.plain (.tup i) = IV.plains i := by simp only [IV.plain, IV.plains, IV.dep, IV.deps]
@[simp] theorem plains_nil : IV.plains [] = true := by simp only [IV.plain, IV.plains, IV.dep, IV.deps]
@[simp] theorem plains_cons {x : IV} {xs : List IV} : IV.plains (x :: xs) = (x.plain && IV.plains xs) := by simp only [IV.plain, IV.plains, IV.dep, IV.deps]
@[simp] theorem dep_non : IV.dep .non = 0 := by simp only [IV.plain, IV.plains, IV.dep, IV.deps]
@[simp] theorem dep_int {i : Int} : IV.dep (.int i) = 0 := by simp only [IV.plain, IV.plains, IV.dep, IV.deps]
@[simp] theorem dep_bl {i : Bool} : IV.dep (.bl i) = 0 := by simp only [IV.plain, IV.plains, IV.dep, IV.deps]
@[simp] theorem dep_str {i : Str} : IV.dep (.str i) = 0 := by simp only [IV.plain, IV.plains, IV.dep, IV.deps]
@[simp] theorem dep_tup {i : List IV} : IV.dep (.tup i) = IV.deps i + 1 := by simp only [IV.plain, IV.plains, IV.dep, IV.deps]
@[simp] theorem deps_nil : IV.deps [] = 0 := by simp only [IV.plain, IV.plains, IV.dep, IV.deps]
@[simp] theorem deps_cons {x : IV} {xs : List IV} : IV.deps (x :: xs) = max x.dep (IV.deps xs) := by simp only [IV.plain, IV.plains, IV.dep, IV.deps]
@[simp] theorem pyEq_bl {a b : Bool} : pyEq (.bl a) (.bl b) = (a == b) := id rfl
@[simp] theorem pyEq_int {a b : Int} : pyEq (.int a) (.int b) = (a == b) := id rfl
@[simp] theorem pyEq_str {a b : Str} : pyEq (.str a) (.str b) = decide (a = b) := id rfl
@[simp] theorem pyEq_tup {a b : List IV} : pyEq (.tup a) (.tup b) = pyEqs a b := id rfl
@[simp] theorem pyEq_non : pyEq .non .non = true := id rfl
@[simp] theorem pyEqs_nil : pyEqs [] [] = true := id rfl
@[simp] theorem pyEqs_cons {x y : IV} {xs ys : List IV} : pyEqs (x :: xs) (y :: ys) = (pyEq x y && pyEqs xs ys) := id rfl
theorem eqM_plain {x y : IV} {st : Store} (h : x.plain = true) (h2 : y.plain = true) (d : x.dep ≤ 60) : eqM (.v x) (.v y) st = some (pyEq x y) := by
  simp only [eqM, cont_plain h, cont_plain h2]
  exact if_pos (Nat.le_trans (Nat.min_le_left _ _) d)
theorem eqM_l {xs ys : List IV} {st : Store} (h : IV.plains xs = true) (h2 : IV.plains ys = true) (d : IV.deps xs ≤ 59) : eqM (.l xs) (.l ys) st = some (pyEqs xs ys) := by
  simp only [eqM, cont, h, h2, if_true]
  exact if_pos (Nat.le_trans (Nat.min_le_left _ _) (show IV.deps xs + 1 ≤ 60 by omega))
section
variable {st : Store} {a b : Bool} {i j : Int} {x y : Str} {xs ys : List IV}
@[simp] theorem eq_bl : eqM (.v (.bl a)) (.v (.bl b)) st = some (a == b) := eqM_plain rfl rfl (Nat.zero_le _)
@[simp] theorem eq_non : eqM (.v .non) (.v .non) st = some true := eqM_plain rfl rfl (Nat.zero_le _)
theorem eq_str (h : PyData.strOk x = true) (h2 : PyData.strOk y = true) : eqM (.v (.str x)) (.v (.str y)) st = some (decide (x = y)) := eqM_plain h h2 (Nat.zero_le _)
theorem eq_tup (h : IV.plains xs = true) (h2 : IV.plains ys = true) (d : IV.deps xs ≤ 59) : eqM (.v (.tup xs)) (.v (.tup ys)) st = some (pyEqs xs ys) := eqM_plain h h2 (Nat.succ_le_succ d)
@[simp] theorem eq_lnil : eqM (.l []) (.l []) st = some true := id rfl
end
@[simp] theorem isTys_eq {st : Store} {x : TV} {ts : List Ty} : isTys st x ts = (tnOf st x).map fun n => ts.any (tnIs n) := id rfl
@[simp] theorem tn_non {st : Store} : tnOf st (.v .non) = some .none := id rfl
@[simp] theorem tn_bl {st : Store} {b : Bool} : tnOf st (.v (.bl b)) = some .bool := id rfl
@[simp] theorem tn_int {st : Store} {b : Int} : tnOf st (.v (.int b)) = some .int := id rfl
@[simp] theorem tn_str {st : Store} {b : Str} : tnOf st (.v (.str b)) = some .str := id rfl
@[simp] theorem tn_tup {st : Store} {b : List IV} : tnOf st (.v (.tup b)) = some .tuple := id rfl
@[simp] theorem tn_l {st : Store} {b : List IV} : tnOf st (.l b) = some .list := id rfl
theorem tn_ref {st : Store} {r : Nat} {xs : List IV} (h : st[r]? = some (.lst xs)) : tnOf st (.v (.ref r)) = some .list := by simp [tnOf, h]
@[simp] theorem rngL_length {lo : Int} {n : Nat} : (rngL lo n).length = n := by unfold rngL; simp
@[simp] theorem filter_no {xs : List IV} : xs.filter (fun _ => false) = [] := List.filter_eq_nil_iff.mpr (by simp)
theorem alike_flat {fu m : Nat} {st : Store} {x : IV} (hp : x.plain = true) (h : ∀ xs, x ≠ .tup xs) : callWith (callM fu (m + 1)) D_law_alike [.v x, .v x] st = .ok (.v (.bl true)) st := by
  refine call_v (xs := [x, x]) ?_ rfl
  rw [call_go rfl]
  cases x with
  | tup xs => exact absurd rfl (h xs)
  | frz _ => simp [IV.plain] at hp
  | ref _ => simp [IV.plain] at hp
  | str x => simp [B_law_alike, startE, tnIs, eq_str hp hp]
  | _ => simp [B_law_alike, startE, tnIs]
theorem alike_ok {fu : Nat} {st : Store} : ∀ (d m : Nat) (x : IV), d < m → x.plain = true → x.fit = true → x.dep ≤ d → x.dep ≤ 60 → callWith (callM fu m) D_law_alike [.v x, .v x] st = .ok (.v (.bl true)) st := by
  intro d
  induction d with
  | zero =>
    intro m x hm hp hf hd h60
    obtain ⟨m, rfl⟩ : ∃ k, m = k + 1 := ⟨m - 1, by omega⟩
    exact alike_flat hp (by rintro xs rfl; simp at hd)
  | succ d ih =>
    intro m x hm hp hf hd h60
    obtain ⟨m, rfl⟩ : ∃ k, m = k + 1 := ⟨m - 1, by omega⟩
    cases x with
    | tup xs =>
      refine call_v (xs := [.tup xs, .tup xs]) ?_ rfl
      rw [call_go rfl]
      simp only [dep_tup, plain_tup] at hd h60 hp
      simp only [IV.fit, Bool.and_eq_true, decide_eq_true_eq] at hf
      simp [B_law_alike, startE, tnIs, inB_nat hf.1]
      rw [comp_pure (fun _ => false) (fun x => x) rfl]
      · simp
      · intro x hx
        obtain ⟨k, hk, rfl⟩ := List.mem_map.mp hx
        have hk := List.mem_range.mp hk
        have dm := deps_mem (List.getElem_mem hk)
        simp [wipeN, hk, ih m (xs[k]) (by omega) (plains_mem hp (List.getElem_mem hk)) (fits_mem hf.2 (List.getElem_mem hk)) (by omega) (by omega)]
      · rw [rngL_length, List.length_nil, Nat.zero_add]; exact hf.1
    | _ => exact alike_flat hp (by intro xs z; cases z)
end MP.Lw

set_option linter.all false
set_option autoImplicit false
set_option Elab.async false
set_option maxRecDepth 100000
set_option maxHeartbeats 1000000
namespace MP.Lw
open PySem
theorem set_app {st : Store} {r : Nat} {o : IO} {t : Store} (h : r < st.length) : (st ++ t).set r o = st.set r o ++ t := List.set_append_left _ _ h
theorem get_app {st : Store} {r : Nat} {o : IO} {t : Store} (h : st[r]? = some o) : (st ++ t)[r]? = some o := by
  rw [List.getElem?_append_left (List.getElem?_eq_some_iff.mp h).1]; exact h
theorem get_lt {st : Store} {r : Nat} {o : IO} (h : st[r]? = some o) : r < st.length := (List.getElem?_eq_some_iff.mp h).1
/-- a draw, as a call -/
theorem taken_call {fu n : Nat} (w : Row) (many : Int) (h1 : 0 < many) (h2 : many < 1073741824) : ∃ (v : Int) (w' : Row), 0 ≤ v ∧ v < many ∧ ∀ (st : Store) (r : Nat), st[r]? = some w.io → callWith (callM fu (n + 1)) D_law_taken [.v (.ref r), .v (.int many)] st = .ok (.v (.int v)) (st.set r w'.io) := by
  obtain ⟨v, w', q1, q2, q3⟩ := taken_ok fu n w many h1 h2
  refine ⟨v, w', q1, q2, fun st r h => ?_⟩
  refine call_put (t := []) (t' := []) (xs := [.ref r, .int many]) (by simp) ?_ (Row.low _ _) rfl
  rw [List.append_nil, List.append_nil]
  exact q3 st r h
theorem lows_get : ∀ {n : Nat} {xs : List IV} {k : Nat} (h : k < xs.length), IV.lows n xs = true → (xs[k]).low n = true
  | n, x :: xs, 0, _, h => by simp only [IV.lows, Bool.and_eq_true] at h; exact h.1
  | n, x :: xs, k + 1, hk, h => by
    simp only [IV.lows, Bool.and_eq_true] at h
    exact lows_get (Nat.lt_of_succ_lt_succ hk) h.2
theorem pick_ok {fu n : Nat} (w : Row) (L : Nat) (h0 : 0 < L) (hL : L < 1000000) : ∃ (k : Nat) (w' : Row), k < L ∧ ∀ (st : Store) (r : Nat) (xs : List IV) (hx : xs.length = L) (x : IV), xs[k]? = some x → st[r]? = some w.io → IV.lows st.length xs = true →
    callWith (callM fu (n + 2)) D_law_pick [.v (.ref r), .l xs] st = .ok (.v x) (st.set r w'.io) := by
  obtain ⟨v, w', q1, q2, q3⟩ := taken_call (fu := fu) (n := n) w L (by omega) (by omega)
  refine ⟨v.toNat, w', by omega, fun st r xs hx x hk hr hl => ?_⟩
  have hvl : v.toNat < xs.length := by omega
  rw [List.getElem?_eq_getElem hvl] at hk
  cases hk
  refine call_put (t := [.lst xs]) (t' := [.lst xs]) (xs := [.ref r, .ref st.length]) (by simp) ?_ (Row.low _ _) (lows_get hvl hl)
  rw [call_go rfl]
  have e1 : (st ++ [IO.lst xs])[st.length]? = some (.lst xs) := by simp
  have e2 := q3 (st ++ [.lst xs]) r (get_app hr)
  rw [set_app (get_lt hr)] at e2
  have e3 : (st.set r w'.io ++ [IO.lst xs])[st.length]? = some (.lst xs) := by rw [List.getElem?_append_right (by simp)]; simp
  have hx' : v < (xs.length : Int) := by omega
  simp [B_law_pick, startE, len_ref e1, idx_ref e3, hx, e2, q1, q2, hvl]
theorem word_draw {fu n : Nat} (w : Row) : ∃ (v : Int) (w' : Row), isWord v ∧ ∀ (st : Store) (r : Nat), st[r]? = some w.io → callWith (callM fu (n + 3)) D_law_word [.v (.ref r)] st = .ok (.v (.int v)) (st.set r w'.io) := by
  obtain ⟨v, w1, q1, q2, q3⟩ := taken_call (fu := fu) (n := n + 1) w 65536 (by decide) (by decide)
  obtain ⟨k, w2, k1, k2⟩ := pick_ok (fu := fu) (n := n) w1 9 (by decide) (by decide)
  have : ∃ y, isWord y ∧ ([0, 0, 1, 2, 3, 5, 65535, 40000, v] : List Int)[k]? = some y := by
    have cs : k = 0 ∨ k = 1 ∨ k = 2 ∨ k = 3 ∨ k = 4 ∨ k = 5 ∨ k = 6 ∨ k = 7 ∨ k = 8 := by omega
    unfold isWord
    rcases cs with rfl | rfl | rfl | rfl | rfl | rfl | rfl | rfl | rfl <;> refine ⟨_, ?_, rfl⟩ <;> first | decide | exact ⟨q1, q2⟩
  obtain ⟨y, y1, y2⟩ := this
  refine ⟨y, w2, y1, fun st r hr => ?_⟩
  have e2 := k2 (st.set r w1.io) r [.int 0, .int 0, .int 1, .int 2, .int 3, .int 5, .int 65535, .int 40000, .int v] rfl (.int y)
    (by have := congrArg (Option.map IV.int) y2; rw [← List.getElem?_map] at this; exact this) (by rw [List.getElem?_set_self (get_lt hr)]) rfl
  refine call_put (t := []) (t' := []) (xs := [.ref r]) (by simp) ?_ (Row.low _ _) rfl
  rw [call_go rfl, List.append_nil, List.append_nil]
  have e1 := q3 st r hr
  rw [List.set_set] at e2
  simp [B_law_word, startE, e1, e2]
end MP.Lw

set_option linter.all false
set_option autoImplicit false
set_option Elab.async false
set_option maxRecDepth 100000
namespace MP.Lw
open PySem
/-! ### lists of the store, by what stands there -/
def lstAt : Option IO → Option (List IV)
  | some (.lst xs) => some xs
  | _ => none
@[simp] theorem lstAt_lst {xs : List IV} : lstAt (some (.lst xs)) = some xs := id rfl
section
variable {st : Store} {r : Nat} {i : Int} {xs ys : List IV}
theorem itemsM_E : itemsM st (.v (.ref r)) = lstAt st[r]? := by
  simp only [itemsM, lstAt]
  all_goals (rcases st[r]? with _ | (_ | _ | _ | _) <;> rfl)
theorem itemsL_E : itemsL st (.v (.ref r)) = lstAt st[r]? := by
  simp only [itemsL, lstAt]
  all_goals (rcases st[r]? with _ | (_ | _ | _ | _) <;> rfl)
theorem items_E : itemsLT st (.v (.ref r)) = lstAt st[r]? := by
  simp only [itemsLT]; exact itemsL_E
def idxR (o : Option IO) (i : Int) (st : Store) : Res TV := match o with
  | some (.lst xs) => oM (atN xs.length i) (fun k => oM (xs[k]?) (fun z => .ok (.v z) st) .bad) .bad
  | _ => .bad
@[simp] theorem idxR_lst : idxR (some (.lst xs)) i st = oM (atN xs.length i) (fun k => oM (xs[k]?) (fun z => .ok (.v z) st) .bad) .bad := id rfl
theorem idx_E : idxM (.v (.ref r)) (.v (.int i)) st = idxR st[r]? i st := by
  simp only [idxM, items_E]
  rcases h : st[r]? with _ | (xs | kvs | kvs | _)
  · rfl
  · simp only [lstAt, idxR]
    rcases atN xs.length i with _ | k
    · rfl
    · simp only [oM_some]; rcases h2 : xs[k]? with _ | z <;> simp only [oM_some, oM_none]
  · rfl
  · rfl
  · rfl
def lenR : Option IO → Option Nat
  | some (.lst xs) => some xs.length
  | _ => none
@[simp] theorem lenR_lst : lenR (some (.lst xs)) = some xs.length := id rfl
theorem len_E : lenOf st (.v (.ref r)) = lenR st[r]? := by
  simp only [lenOf, items_E]
  rcases h : st[r]? with _ | (xs | kvs | kvs | _) <;> rfl
def sqR (r : Nat) : Option IO → Option Sq
  | some (.lst xs) => some ⟨xs, some r⟩
  | _ => none
@[simp] theorem sqR_lst : sqR r (some (.lst xs)) = some ⟨xs, some r⟩ := id rfl
theorem sq_E : sqOf st (.v (.ref r)) = sqR r st[r]? := by
  simp only [sqOf]
  rcases h : st[r]? with _ | (xs | kvs | kvs | _) <;> rfl
def tnR : Option IO → Option Tn
  | some (.lst _) => some .list
  | _ => none
@[simp] theorem tnR_lst : tnR (some (.lst xs)) = some .list := id rfl
theorem tn_E : tnOf st (.v (.ref r)) = tnR st[r]? := by
  simp only [tnOf]
  rcases h : st[r]? with _ | (xs | kvs | kvs | _) <;> rfl
theorem addRL_E : binM .add (.v (.ref r)) (.l ys) st = oM (lstAt st[r]?) (fun xs => if xs.length + ys.length ≤ lineN then .ok (.l (xs ++ ys)) st else .bad) .bad := by
  simp only [binM, itemsM_E]
  simp only [itemsM]
  rcases lstAt st[r]? with _ | xs <;> rfl
@[simp] theorem addLL : binM .add (.l xs) (.l ys) st = if xs.length + ys.length ≤ lineN then .ok (.l (xs ++ ys)) st else .bad := id rfl
def appR (st : Store) (r : Nat) (x : TV) : Option IO → Res TV
  | some (.lst xs) => if xs.length < lineN then (mat x st).bind fun y st => .ok (.v .non) (st.set r (.lst (xs ++ [y]))) else .bad
  | _ => .bad
@[simp] theorem appR_lst {x : IV} : appR st r (.v x) (some (.lst xs)) = if xs.length < lineN then .ok (.v .non) (st.set r (.lst (xs ++ [x]))) else .bad := id rfl
theorem app_E {x : TV} : bmM .append (.v (.ref r)) [x] st = appR st r x st[r]? := by
  simp only [bmM]
  rcases h : st[r]? with _ | (xs | kvs | kvs | _) <;> rfl
theorem isLst_E : isLst (.v (.ref r)) st = (lstAt st[r]?).isSome := by unfold isLst; rw [itemsM_E]
def setR (r : Nat) (i : Int) (z : IV) (st : Store) : Option IO → Option Store
  | some (.lst xs) => (atN xs.length i).map fun k => st.set r (.lst (xs.set k z))
  | _ => none
@[simp] theorem setR_lst {z : IV} : setR r i z st (some (.lst xs)) = (atN xs.length i).map fun k => st.set r (.lst (xs.set k z)) := id rfl
theorem setIdx_E {z : IV} : setIdx (.v (.ref r)) (.v (.int i)) z st = setR r i z st st[r]? := by
  simp only [setIdx]
  rcases h : st[r]? with _ | (xs | kvs | kvs | _) <;> rfl
end
end MP.Lw

set_option linter.all false
set_option autoImplicit false
set_option Elab.async false
set_option maxRecDepth 100000
namespace MP.Lw
open PySem
/-! ### dicts, and an index of a constant's texts: the steps -/
section
variable {G : Orc} {me : FnDef} {fu : Nat} {env : Env} {st : Store} {e e1 e2 : E} {ks es : List E} {xs k : List IV} {vs : List TV} {x X u : TV} {y z : IV} {nm : Str} {pos : Bool} {r : Nat} {kvs : List (IV × IV)}
@[simp] theorem e_dnew : evE G me .dnew env st = .ok (.v (.ref st.length)) (st ++ [.dic []]) := by simp only [evE]
def keyK2 : List IV → Store → Res (List IV) := fun xs st => if xs.length ≤ lineN && xs.all IV.key1 then .ok xs st else .bad
@[simp] theorem keyK2_s : keyK2 xs st = if xs.length ≤ lineN && xs.all IV.key1 then .ok xs st else .bad := id rfl
def keyK : List TV → Store → Res (List IV) := fun vs st => (mats vs st).bind keyK2
@[simp] theorem keyK_s : keyK vs st = (mats vs st).bind keyK2 := id rfl
@[simp] theorem evK_s {q : Res (List TV)} : evK q = q.bind keyK := id rfl
def dgK2 (x : TV) : List IV → Store → Res TV := fun k st => dgetM k x st
@[simp] theorem dgK2_s : dgK2 x k st = dgetM k x st := id rfl
def dgK (G : Orc) (me : FnDef) (ks : List E) (env : Env) : TV → Store → Res TV := fun x st => (evK (evEs G me ks env st)).bind (dgK2 x)
@[simp] theorem dgK_s : dgK G me ks env X st = (evK (evEs G me ks env st)).bind (dgK2 X) := id rfl
@[simp] theorem e_dget : evE G me (.dget e ks) env st = (evE G me e env st).bind (dgK G me ks env) := by simp only [evE]; rfl
def ddK3 (x : TV) (k : List IV) : TV → Store → Res TV := fun y st => dgetDM k x y st
@[simp] theorem ddK3_s : ddK3 x k X st = dgetDM k x X st := id rfl
def ddK2 (G : Orc) (me : FnDef) (e : E) (env : Env) (x : TV) : List IV → Store → Res TV := fun k st => (evE G me e env st).bind (ddK3 x k)
@[simp] theorem ddK2_s : ddK2 G me e env x k st = (evE G me e env st).bind (ddK3 x k) := id rfl
def ddK (G : Orc) (me : FnDef) (ks : List E) (e : E) (env : Env) : TV → Store → Res TV := fun x st => if isDic st x then (evK (evEs G me ks env st)).bind (ddK2 G me e env x) else .bad
@[simp] theorem ddK_s : ddK G me ks e env X st = if isDic st X then (evK (evEs G me ks env st)).bind (ddK2 G me e env X) else .bad := id rfl
@[simp] theorem e_dgetD : evE G me (.dgetD e1 ks e) env st = (evE G me e1 env st).bind (ddK G me ks e env) := by simp only [evE]; rfl
def dinK2 (pos : Bool) (k : List IV) : TV → Store → Res TV := fun x st => dinM pos k x st
@[simp] theorem dinK2_s : dinK2 pos k X st = dinM pos k X st := id rfl
def dinK (G : Orc) (me : FnDef) (pos : Bool) (e : E) (env : Env) : List IV → Store → Res TV := fun k st => (evE G me e env st).bind (dinK2 pos k)
@[simp] theorem dinK_s : dinK G me pos e env k st = (evE G me e env st).bind (dinK2 pos k) := id rfl
@[simp] theorem e_din : evE G me (.din pos ks e) env st = (evK (evEs G me ks env st)).bind (dinK G me pos e env) := by simp only [evE]; rfl
def dsK : TV → Store → Res TV := fun x st => dsortM x st
@[simp] theorem dsK_s : dsK X st = dsortM X st := id rfl
@[simp] theorem e_dsort : evE G me (.dsort e) env st = (evE G me e env st).bind dsK := by simp only [evE]; rfl
def siK (ys : List Str) : TV → Store → Res TV := fun k st => strIx ys k st
@[simp] theorem siK_s {ys : List Str} : siK ys X st = strIx ys X st := id rfl
def ixNK (G : Orc) (me : FnDef) (e : E) (env : Env) (st : Store) (o : Option (List Str)) : Res TV := oM o (fun ys => (evE G me e env st).bind (siK ys)) .bad
@[simp] theorem e_ixN : evE G me (.ixN nm y e) env st = oM (rowN y) (fun ys => (evE G me e env st).bind (siK ys)) .bad := by
  simp only [evE]; rcases rowN y with _ | ys <;> rfl
def ixTK (G : Orc) (me : FnDef) (y : IV) (e : E) (env : Env) : TV → Store → Res TV := fun j st => oM (rowT y j) (fun ys => (evE G me e env st).bind (siK ys)) .bad
@[simp] theorem ixTK_s : ixTK G me y e env X st = oM (rowT y X) (fun ys => (evE G me e env st).bind (siK ys)) .bad := id rfl
@[simp] theorem e_ixT : evE G me (.ixT nm y e1 e) env st = (evE G me e1 env st).bind (ixTK G me y e env) := by
  simp only [evE]
  congr 1
  funext j st
  simp only [ixTK_s]
  rcases rowT y j with _ | ys <;> rfl
def dpK4 (env : Env) (z : IV) (x : TV) : List IV → Store → RS := fun k st => oM (dicAt st x) (fun q => if q.2.length < lineN then .nx env (st.set q.1 (.dic (kPut k z q.2))) else .bad) .bad
@[simp] theorem dpK4_s : dpK4 env z x k st = oM (dicAt st x) (fun q => if q.2.length < lineN then .nx env (st.set q.1 (.dic (kPut k z q.2))) else .bad) .bad := id rfl
def dpK3 (G : Orc) (me : FnDef) (ks : List E) (env : Env) (z : IV) : TV → Store → RS := fun x st => (evK (evEs G me ks env st)).run env (dpK4 env z x)
@[simp] theorem dpK3_s : dpK3 G me ks env z X st = (evK (evEs G me ks env st)).run env (dpK4 env z X) := id rfl
def dpK2 (G : Orc) (me : FnDef) (e : E) (ks : List E) (env : Env) : IV → Store → RS := fun z st => (evE G me e env st).run env (dpK3 G me ks env z)
@[simp] theorem dpK2_s : dpK2 G me e ks env z st = (evE G me e env st).run env (dpK3 G me ks env z) := id rfl
def dpK (G : Orc) (me : FnDef) (e : E) (ks : List E) (env : Env) : TV → Store → RS := fun y st => (mat y st).run env (dpK2 G me e ks env)
@[simp] theorem dpK_s : dpK G me e ks env X st = (mat X st).run env (dpK2 G me e ks env) := id rfl
@[simp] theorem s_dput_ : evS G me fu (.dput e1 ks e) env st = (evE G me e env st).run env (dpK G me e1 ks env) := by
  simp only [evS]
  congr 1
  funext y st
  simp only [dpK_s]
  congr 1
  funext z st
  simp only [dpK2_s]
  congr 1
  funext x st
  simp only [dpK3_s]
  congr 1
  funext k st
  simp only [dpK4_s]
  rcases dicAt st x with _ | ⟨r, kvs⟩ <;> rfl
/-- what stands at r, of dicts -/
def dicR : Option IO → Option (List (IV × IV))
  | some (.dic kvs) => some kvs
  | _ => none
@[simp] theorem dicR_dic : dicR (some (.dic kvs)) = some kvs := id rfl
theorem dic_E : dicAt st (.v (.ref r)) = (dicR st[r]?).map (r, ·) := by
  simp only [dicAt]
  rcases st[r]? with _ | (_ | _ | _ | _) <;> rfl
theorem isDic_E : isDic st (.v (.ref r)) = (dicR st[r]?).isSome := by
  simp only [isDic, dic_E, Option.isSome_map]
theorem dget_E : dgetM k (.v (.ref r)) st = oM (dicR st[r]?) (fun kvs => oM (kLook k kvs) (fun v => .ok (.v v) st) .bad) .bad := by
  simp only [dgetM, dic_E]
  rcases dicR st[r]? with _ | kvs
  · rfl
  · simp only [Option.map_some, oM_some]; rcases kLook k kvs with _ | v <;> rfl
theorem dgetD_E : dgetDM k (.v (.ref r)) (.v y) st = oM (dicR st[r]?) (fun kvs => .ok (.v ((kLook k kvs).getD y)) st) .bad := by
  simp only [dgetDM, dic_E]
  rcases dicR st[r]? with _ | kvs <;> rfl
theorem din_E : dinM pos k (.v (.ref r)) st = oM (dicR st[r]?) (fun kvs => .ok (.v (.bl (if pos then (kLook k kvs).isSome else !(kLook k kvs).isSome))) st) .bad := by
  simp only [dinM, dic_E]
  rcases dicR st[r]? with _ | kvs <;> rfl
theorem dsort_E : dsortM (.v (.ref r)) st = oM (dicR st[r]?) (fun kvs => oM (pairsOf kvs) (fun ps => .ok (.l ((ps.mergeSort pairLe).map pairIV)) st) .bad) .bad := by
  simp only [dsortM, dic_E]
  rcases dicR st[r]? with _ | kvs
  · rfl
  · simp only [Option.map_some, oM_some]; rcases pairsOf kvs with _ | v <;> rfl
@[simp] theorem strIx_s {ys : List Str} {w : Str} : strIx ys (.v (.str w)) st = oM (ys.findIdx? (fun y => decide (y = w))) (fun j => .ok (.v (.int j)) st) .bad := by
  simp only [strIx]
  rcases ys.findIdx? (fun y => decide (y = w)) with _ | j <;> rfl
@[simp] theorem key1_int {i : Int} : IV.key1 (.int i) = true := id rfl
@[simp] theorem key1_str {i : Str} : IV.key1 (.str i) = true := id rfl
end
end MP.Lw

set_option linter.all false
set_option autoImplicit false
set_option Elab.async false
set_option maxRecDepth 100000
set_option maxHeartbeats 1000000
namespace MP.Lw
open PySem
/-! ### texts -/
@[simp] theorem strOk_of (s : String) : PyData.strOk (Str.ofString s) = true := by
  unfold PyData.strOk
  rw [Str.ofString_eq_toList]
  simp only [List.all_toArray, List.all_map, List.all_eq_true, Function.comp, decide_eq_true_eq]
  intro c _
  have := c.valid
  simp only [Char.toNat]
  rcases this with h | ⟨_, h⟩
  · have : c.val.toNat < 0xd800 := h
    omega
  · exact h
@[simp] theorem of_inj (s t : String) : (Str.ofString s = Str.ofString t) = (s = t) := by
  refine propext ⟨fun h => ?_, fun h => by rw [h]⟩
  rw [Str.ofString_eq_toList, Str.ofString_eq_toList] at h
  have h2 : s.toList.map Char.toNat = t.toList.map Char.toNat := by
    have := congrArg (fun z : Str => z.cps.toList) h
    simpa using this
  have h3 : s.toList = t.toList := (List.map_inj_right fun a b e => Char.toNat_inj.mp e).mp h2
  exact String.toList_inj.mp h3
@[simp] theorem plain_str (s : String) : IV.plain (.str (Str.ofString s)) = true := by simp only [IV.plain, strOk_of]
@[simp] theorem eq_strl (s t : String) {st : Store} : eqM (.v (.str (Str.ofString s))) (.v (.str (Str.ofString t))) st = some (decide (s = t)) := by
  rw [eq_str (strOk_of s) (strOk_of t)]; simp only [of_inj]
@[simp] theorem in_tup {x : IV} {ys : List IV} {st : Store} (h : x.plain = true) (d : x.dep ≤ 60) (h2 : IV.plains ys = true) : inM (.v x) (.v (.tup ys)) st = some (anyEq x ys) := by
  unfold inM
  split
  · rename_i e1 e2; cases e2
  · rename_i e _; cases e
    simp [h, d, h2, itemsLT]
  · simp_all
@[simp] theorem in_l {x : IV} {ys : List IV} {st : Store} (h : x.plain = true) (d : x.dep ≤ 60) (h2 : IV.plains ys = true) : inM (.v x) (.l ys) st = some (anyEq x ys) := by
  unfold inM
  split
  · rename_i e1 e2; cases e2
  · rename_i e _; cases e
    simp [h, d, h2, itemsLT, itemsL]
  · simp_all
@[simp] theorem anyEq_nil {x : IV} : anyEq x [] = false := by simp only [anyEq]
@[simp] theorem anyEq_cons {x y : IV} {ys : List IV} : anyEq x (y :: ys) = (pyEq y x || anyEq x ys) := by simp only [anyEq]
@[simp] theorem pyEq_strl {s t : String} : pyEq (.str (Str.ofString s)) (.str (Str.ofString t)) = decide (s = t) := by rw [pyEq_str]; simp only [of_inj]
@[simp] theorem nob_c {x : IV} : isNob (.c x) = false := id rfl
@[simp] theorem nob_v {i : Nat} : isNob (.v i) = false := id rfl
@[simp] theorem sl_c {G : Orc} {me : FnDef} {env : Env} {st : Store} {e : E} {x : IV} : evE G me (.sl e (.c x) .nob) env st = (evE G me e env st).bind (slLK G me (.c x) env) := e_slL nob_c
@[simp] theorem slM_tup {xs : List IV} {a b : Option Int} {st : Store} : slM (.v (.tup xs)) a b st = .ok (.v (.tup (cut xs a b))) st := id rfl
@[simp] theorem cut_tail {x : IV} {xs : List IV} : cut (x :: xs) (some 1) none = xs := by
  unfold cut sIxN HT.sIx
  simp
/-! ### instructions -/
inductive SW where
  | add | sub | and | less
def SW.s : SW → String
  | .add => "add" | .sub => "sub" | .and => "and" | .less => "less"
inductive Ins where
  | idle
  | set (d n : Int)
  | op (w : SW) (d a b : Int)
  | mul (d a b : Int)
  | load (d a n : Int)
  | store (b a n : Int)
  | zero (a n : Int)
  | go (n : Int)
  | out (a : Int)
def Ins.iv : Ins → IV
  | .idle => .tup [.str "idle"]
  | .set d n => .tup [.str "set", .int d, .int n]
  | .op w d a b => .tup [.str (Str.ofString w.s), .int d, .int a, .int b]
  | .mul d a b => .tup [.str "mul", .int d, .int a, .int b]
  | .load d a n => .tup [.str "load", .int d, .int a, .int n]
  | .store b a n => .tup [.str "store", .int b, .int a, .int n]
  | .zero a n => .tup [.str "zero", .int a, .int n]
  | .go n => .tup [.str "go", .int n]
  | .out a => .tup [.str "out", .int a]
def isReg (i : Int) : Prop := 0 ≤ i ∧ i < 8
def upTo (m i : Int) : Prop := 0 ≤ i ∧ i ≤ m
def Ins.ok (m : Int) : Ins → Prop
  | .idle => True
  | .set d n => isReg d ∧ isWord n
  | .op _ d a b => isReg d ∧ isReg a ∧ isReg b
  | .mul d a b => isReg d ∧ isReg a ∧ isReg b
  | .load d a n => isReg d ∧ isReg a ∧ upTo 15 n
  | .store b a n => isReg b ∧ isReg a ∧ upTo 15 n
  | .zero a n => isReg a ∧ upTo m n
  | .go n => upTo m n
  | .out a => isReg a
theorem is_list_ok {fu n : Nat} {xs : List IV} {lo hi : Int} {st : Store} : callWith (callM fu (n + 1)) D_is_list [.v (.tup xs), .v (.int lo), .v (.int hi)] st = .ok (.v (.bl (decide (lo ≤ xs.length) && decide ((xs.length : Int) ≤ hi)))) st := by
  refine call_v (xs := [.tup xs, .int lo, .int hi]) ?_ rfl
  rw [call_go rfl]
  by_cases h : lo ≤ xs.length <;> simp [B_is_list, startE, tnIs, h]
theorem is_register_ok {fu n : Nat} {i : Int} {st : Store} (h : isReg i) : callWith (callM fu (n + 3)) D_is_register [.v (.int i)] st = .ok (.v (.bl true)) st := by
  refine call_v (xs := [.int i]) ?_ rfl
  rw [call_go rfl]
  have := h.1
  have : i ≤ 7 := by have := h.2; omega
  simp [B_is_register, startE, is_in_ok ty_int, *]
theorem upTo_ok {fu n : Nat} {m i : Int} {st : Store} (h : upTo m i) : callWith (callM fu (n + 2)) D_is_in [.v (.int i), .v (.int 0), .v (.int m)] st = .ok (.v (.bl true)) st := by
  rw [is_in_ok ty_int]; simp [h.1, h.2]
theorem word_is {fu n : Nat} {i : Int} {st : Store} (h : isWord i) : callWith (callM fu (n + 3)) D_is_word [.v (.int i)] st = .ok (.v (.bl true)) st := by
  rw [is_word_ok ty_int, h.b]
theorem is_up_to_ok {fu n : Nat} {m : Int} {i : Ins} {st : Store} (h : i.ok m) : callWith (callM fu (n + 4)) D_is_instruction_up_to [.v i.iv, .v (.int m)] st = .ok (.v (.bl true)) st := by
  have lo : i.iv.low st.length = true := by cases i <;> rfl
  refine call_v (xs := [i.iv, .int m]) ?_ rfl
  rw [call_go rfl]
  cases i with
  | op w d a b =>
    obtain ⟨h1, h2, h3⟩ := h
    cases w <;> simp [B_is_instruction_up_to, startE, Ins.iv, SW.s, is_list_ok, tnIs, compF, wipeN, is_register_ok h1, is_register_ok h2, is_register_ok h3, asBools]
  | mul d a b =>
    obtain ⟨h1, h2, h3⟩ := h
    simp [B_is_instruction_up_to, startE, Ins.iv, is_list_ok, tnIs, compF, wipeN, is_register_ok h1, is_register_ok h2, is_register_ok h3, asBools]
  | idle => simp [B_is_instruction_up_to, startE, Ins.iv, is_list_ok, tnIs, eq_tup]
  | set d n => obtain ⟨h1, h2⟩ := h; simp [B_is_instruction_up_to, startE, Ins.iv, is_list_ok, tnIs, is_register_ok h1, word_is h2]
  | load d a n => obtain ⟨h1, h2, h3⟩ := h; simp [B_is_instruction_up_to, startE, Ins.iv, is_list_ok, tnIs, is_register_ok h1, is_register_ok h2, upTo_ok h3]
  | store d a n => obtain ⟨h1, h2, h3⟩ := h; simp [B_is_instruction_up_to, startE, Ins.iv, is_list_ok, tnIs, is_register_ok h1, is_register_ok h2, upTo_ok h3]
  | zero a n => obtain ⟨h1, h3⟩ := h; simp [B_is_instruction_up_to, startE, Ins.iv, is_list_ok, tnIs, is_register_ok h1, upTo_ok h3]
  | go n => simp [B_is_instruction_up_to, startE, Ins.iv, is_list_ok, tnIs, upTo_ok (show upTo m n from h)]
  | out n => simp [B_is_instruction_up_to, startE, Ins.iv, is_list_ok, tnIs, is_register_ok (show isReg n from h)]
end MP.Lw

set_option linter.all false
set_option autoImplicit false
set_option Elab.async false
set_option maxRecDepth 100000
set_option maxHeartbeats 1000000
namespace MP.Lw
open PySem
def Ins.kind : Ins → String
  | .idle => "idle" | .set .. => "set" | .op .. => "sum" | .mul .. => "mul" | .load .. => "load" | .store .. => "store" | .zero .. => "zero" | .go _ => "go" | .out _ => "out"
def Ins.dst : Ins → IV
  | .set d _ => .int d | .op _ d _ _ => .int d | .mul d _ _ => .int d | .load d _ _ => .int d | _ => .non
def useA (i : Int) : IV := .tup [.str "a", .int i]
def useB (i : Int) : IV := .tup [.str "b", .int i]
def Ins.uses : Ins → List IV
  | .op _ _ a b => [useA a, useA b]
  | .mul _ a b => [useA a, useA b]
  | .load _ a _ => [useA a]
  | .store b a _ => [useA a, useB b]
  | .zero a _ => [useA a]
  | .out a => [useA a]
  | _ => []
theorem Ins.low (i : Ins) (n : Nat) : i.iv.low n = true := by cases i <;> rfl
theorem Ins.dst_low (i : Ins) (n : Nat) : i.dst.low n = true := by cases i <;> rfl
theorem Ins.uses_low (i : Ins) (n : Nat) : IV.lows n i.uses = true := by cases i <;> rfl
section
variable {fu n : Nat} {i : Ins} {st : Store}
theorem is_instruction_ok (h : i.ok 60) : callWith (callM fu (n + 5)) D_is_instruction [.v i.iv] st = .ok (.v (.bl true)) st := by
  refine call_v (xs := [i.iv]) ?_ rfl
  rw [call_go rfl]
  simp [B_is_instruction, startE, is_up_to_ok h]
theorem need_instruction_ok (h : i.ok 60) : callWith (callM fu (n + 6)) D_need_instruction [.v i.iv] st = .ok (.v .non) st := by
  refine call_v (xs := [i.iv]) ?_ rfl
  rw [call_go rfl]
  simp [B_need_instruction, startE, is_instruction_ok h]
theorem kind_in_ok : callWith (callM fu (n + 1)) D_kind_in [.v i.iv] st = .ok (.v (.str (Str.ofString i.kind))) st := by
  refine call_v (xs := [i.iv]) ?_ rfl
  rw [call_go rfl]
  cases i with
  | op w d a b => cases w <;> simp [B_kind_in, startE, Ins.iv, SW.s, Ins.kind]
  | _ => simp [B_kind_in, startE, Ins.iv, Ins.kind]
theorem register_of_ok : callWith (callM fu (n + 2)) D_register_of [.v i.iv] st = .ok (.v i.dst) st := by
  refine call_v (xs := [i.iv]) ?_ (i.dst_low _)
  rw [call_go rfl]
  cases i <;> simp [B_register_of, startE, kind_in_ok, Ins.kind, Ins.dst] <;> simp [Ins.iv]
theorem uses_of_ok : callWith (callM fu (n + 2)) D_uses_of [.v i.iv] st = .ok (.v (.tup i.uses)) st := by
  refine call_v (xs := [i.iv]) ?_ (by simpa [IV.low] using i.uses_low _)
  rw [call_go rfl]
  cases i <;> simp [B_uses_of, startE, kind_in_ok, Ins.kind, Ins.uses] <;> simp [Ins.iv, useA, useB]
theorem kind_of_ok (h : i.ok 60) : callWith (callM fu (n + 7)) D_kind_of [.v i.iv] st = .ok (.v (.str (Str.ofString i.kind))) st := by
  refine call_v (xs := [i.iv]) ?_ rfl
  rw [call_go rfl]
  simp [B_kind_of, startE, need_instruction_ok h, kind_in_ok]
theorem written_by_ok (h : i.ok 60) : callWith (callM fu (n + 7)) D_written_by [.v i.iv] st = .ok (.v i.dst) st := by
  refine call_v (xs := [i.iv]) ?_ (i.dst_low _)
  rw [call_go rfl]
  simp [B_written_by, startE, need_instruction_ok h, register_of_ok]
theorem used_by_ok (h : i.ok 60) : callWith (callM fu (n + 7)) D_used_by [.v i.iv] st = .ok (.v (.tup i.uses)) st := by
  refine call_v (xs := [i.iv]) ?_ (by simpa [IV.low] using i.uses_low _)
  rw [call_go rfl]
  simp [B_used_by, startE, need_instruction_ok h, uses_of_ok]
theorem law_kind_ok : callWith (callM fu (n + 1)) D_law_kind [.v i.iv] st = .ok (.v (.str (Str.ofString i.kind))) st := by
  refine call_v (xs := [i.iv]) ?_ rfl
  rw [call_go rfl]
  cases i with
  | op w d a b => cases w <;> simp [B_law_kind, startE, Ins.iv, SW.s, Ins.kind]
  | _ => simp [B_law_kind, startE, Ins.iv, Ins.kind]
theorem law_writes_ok : callWith (callM fu (n + 2)) D_law_writes [.v i.iv] st = .ok (.v i.dst) st := by
  refine call_v (xs := [i.iv]) ?_ (i.dst_low _)
  rw [call_go rfl]
  cases i <;> simp [B_law_writes, startE, law_kind_ok, Ins.kind, Ins.dst] <;> simp [Ins.iv]
theorem law_uses_ok : callWith (callM fu (n + 2)) D_law_uses [.v i.iv] st = .ok (.l i.uses) st := by
  refine call_samel (t := []) (t' := []) (xs := [i.iv]) (by simp) ?_ (i.uses_low _)
  rw [call_go rfl, List.append_nil]
  cases i <;> simp [B_law_uses, startE, law_kind_ok, Ins.kind, Ins.uses] <;> simp [Ins.iv, useA, useB]
end
/-! ### draws, from row to row -/
def Draws (F : Nat → Store → Res TV) (w : Row) (v : TV) (w' : Row) : Prop := ∀ (st : Store) (r : Nat), r < st.length → F r (st.set r w.io) = .ok v (st.set r w'.io)
theorem at_set {st : Store} {r : Nat} {o : IO} (h : r < st.length) : (st.set r o)[r]? = some o := by rw [List.getElem?_set_self h]
theorem Draws.mk' {F : Nat → Store → Res TV} {w w' : Row} {v : TV} (h : ∀ (st : Store) (r : Nat), st[r]? = some w.io → F r st = .ok v (st.set r w'.io)) : Draws F w v w' := fun st r hr => by
  have := h (st.set r w.io) r (at_set hr)
  rwa [List.set_set] at this
theorem set_same {st : Store} {r : Nat} {o : IO} (h : st[r]? = some o) : st.set r o = st := by
  obtain ⟨lt, e⟩ := List.getElem?_eq_some_iff.mp h
  rw [← e]; exact List.set_getElem_self lt
theorem Draws.at_ {F : Nat → Store → Res TV} {w w' : Row} {v : TV} (h : Draws F w v w') {st : Store} {r : Nat} (hr : st[r]? = some w.io) : F r st = .ok v (st.set r w'.io) := by
  have := h st r (get_lt hr)
  rwa [set_same hr] at this
/-- a def that draws -/
theorem Draws.def_ {fu n : Nat} {fd : FnDef} {as : List IV} {w w' : Row} {v : IV} (hv : ∀ k, v.low k = true) (np : as.length + 1 = fd.np) (h : ∀ (st : Store) (r : Nat), r < st.length → exitF (evSs (callM fu n) fd fu fd.body (startE fd (.ref r :: as)) (st.set r w.io)) = .ok (.v v) (st.set r w'.io)) :
    Draws (fun r st => callWith (callM fu (n + 1)) fd (.v (.ref r) :: as.map .v) st) w (.v v) w' := fun st r hr => by
  have e : callM fu (n + 1) fd (.ref r :: as) (st.set r w.io) = .ok (.v v) (st.set r w'.io) := by rw [call_go (by simpa using np)]; exact h st r hr
  have := call_put (fd := fd) (vs := .v (.ref r) :: as.map .v) (st := st.set r w.io) (t := []) (t' := []) (r := r) (o := w'.io) (y := v) (xs := .ref r :: as) (G := callM fu (n + 1)) (by simp [mats_v]) (by simpa using e) (Row.low _ _) (hv _)
  rwa [List.set_set] at this
/-! ### a drawn instruction -/
theorem pick_int {fu n : Nat} (w : Row) (many : Int) (h1 : 0 < many) (h2 : many < 1073741824) : ∃ (v : Int) (w' : Row), (0 ≤ v ∧ v < many) ∧ Draws (fun r st => callWith (callM fu (n + 1)) D_law_taken [.v (.ref r), .v (.int many)] st) w (.v (.int v)) w' := by
  obtain ⟨v, w', q1, q2, q3⟩ := taken_call (fu := fu) (n := n) w many h1 h2
  exact ⟨v, w', ⟨q1, q2⟩, .mk' q3⟩
theorem word_int {fu n : Nat} (w : Row) : ∃ (v : Int) (w' : Row), isWord v ∧ Draws (fun r st => callWith (callM fu (n + 3)) D_law_word [.v (.ref r)] st) w (.v (.int v)) w' := by
  obtain ⟨v, w', q1, q2⟩ := word_draw (fu := fu) (n := n) w
  exact ⟨v, w', q1, .mk' q2⟩
theorem instr_draw {fu n : Nat} (w : Row) (m : Int) (hm : 0 ≤ m) (hm2 : m < 1000000) : ∃ (i : Ins) (w' : Row), (∀ k, m ≤ k → i.ok k) ∧ Draws (fun r st => callWith (callM fu (n + 4)) D_law_instruction [.v (.ref r), .v (.int m)] st) w (.v i.iv) w' := by
  obtain ⟨d, w1, hd, kd⟩ := pick_int (fu := fu) (n := n + 2) w 4 (by decide) (by decide)
  obtain ⟨a, w2, ha, ka⟩ := pick_int (fu := fu) (n := n + 2) w1 4 (by decide) (by decide)
  obtain ⟨b, w3, hb, kb⟩ := pick_int (fu := fu) (n := n + 2) w2 4 (by decide) (by decide)
  obtain ⟨k, w4, hk, kk⟩ := pick_int (fu := fu) (n := n + 2) w3 15 (by decide) (by decide)
  have rd : isReg d := ⟨hd.1, by omega⟩
  have ra : isReg a := ⟨ha.1, by omega⟩
  have rb : isReg b := ⟨hb.1, by omega⟩
  have cs : (k = 0 ∨ k = 1 ∨ k = 2 ∨ k = 3) ∨ k = 4 ∨ (4 < k ∧ k < 7) ∨ (¬ k < 7 ∧ k < 9) ∨ (¬ k < 9 ∧ k < 11) ∨ k = 11 ∨ k = 12 ∨ k = 13 ∨ k = 14 := by omega
  rcases cs with cs | rfl | cs | cs | cs | rfl | rfl | rfl | rfl
  · obtain ⟨s, hs⟩ : ∃ s : SW, ([IV.str "add", .str "sub", .str "and", .str "less"] : List IV)[k.toNat]? = some (.str (Str.ofString s.s)) := by
      rcases cs with rfl | rfl | rfl | rfl
      · exact ⟨.add, rfl⟩
      · exact ⟨.sub, rfl⟩
      · exact ⟨.and, rfl⟩
      · exact ⟨.less, rfl⟩
    have k0 : k < 4 := by omega
    refine ⟨.op s d a b, w4, fun _ _ => ⟨rd, ra, rb⟩, .def_ (as := [.int m]) (Ins.low _) rfl fun st r hr => ?_⟩
    simp [B_law_instruction, startE, kd st r hr, ka st r hr, kb st r hr, kk st r hr, k0, hk.1, Ins.iv]
    exact (List.getElem?_eq_some_iff.mp hs).2
  · refine ⟨.mul d a b, w4, fun _ _ => ⟨rd, ra, rb⟩, .def_ (as := [.int m]) (Ins.low _) rfl fun st r hr => ?_⟩
    simp [B_law_instruction, startE, kd st r hr, ka st r hr, kb st r hr, kk st r hr, Ins.iv]
  · obtain ⟨x, w5, hx, kx⟩ := pick_int (fu := fu) (n := n + 2) w4 16 (by decide) (by decide)
    have k0 : ¬ k < 4 := by omega
    have k1 : ¬ k = 4 := by omega
    refine ⟨.load d a x, w5, fun _ _ => ⟨rd, ra, hx.1, by omega⟩, .def_ (as := [.int m]) (Ins.low _) rfl fun st r hr => ?_⟩
    simp [B_law_instruction, startE, kd st r hr, ka st r hr, kb st r hr, kk st r hr, kx st r hr, k0, k1, cs.2, Ins.iv]
  · obtain ⟨x, w5, hx, kx⟩ := pick_int (fu := fu) (n := n + 2) w4 3 (by decide) (by decide)
    have k0 : ¬ k < 4 := by omega
    have k1 : ¬ k = 4 := by omega
    refine ⟨.store b a x, w5, fun _ _ => ⟨rb, ra, hx.1, by omega⟩, .def_ (as := [.int m]) (Ins.low _) rfl fun st r hr => ?_⟩
    simp [B_law_instruction, startE, kd st r hr, ka st r hr, kb st r hr, kk st r hr, kx st r hr, k0, k1, cs.1, cs.2, Ins.iv]
  · obtain ⟨x, w5, hx, kx⟩ := pick_int (fu := fu) (n := n + 2) w4 (m + 1) (by omega) (by omega)
    have k0 : ¬ k < 4 := by omega
    have k1 : ¬ k = 4 := by omega
    have k2 : ¬ k < 7 := by omega
    refine ⟨.zero a x, w5, fun j hj => ⟨ra, hx.1, by omega⟩, .def_ (as := [.int m]) (Ins.low _) rfl fun st r hr => ?_⟩
    simp [B_law_instruction, startE, kd st r hr, ka st r hr, kb st r hr, kk st r hr, kx st r hr, k0, k1, k2, cs.1, cs.2, Ins.iv]
  · obtain ⟨x, w5, hx, kx⟩ := word_int (fu := fu) (n := n) w4
    refine ⟨.set d x, w5, fun j hj => ⟨rd, hx⟩, .def_ (as := [.int m]) (Ins.low _) rfl fun st r hr => ?_⟩
    simp [B_law_instruction, startE, kd st r hr, ka st r hr, kb st r hr, kk st r hr, kx st r hr, Ins.iv]
  · obtain ⟨x, w5, hx, kx⟩ := pick_int (fu := fu) (n := n + 2) w4 (m + 1) (by omega) (by omega)
    refine ⟨.go x, w5, fun j hj => ⟨hx.1, by omega⟩, .def_ (as := [.int m]) (Ins.low _) rfl fun st r hr => ?_⟩
    simp [B_law_instruction, startE, kd st r hr, ka st r hr, kb st r hr, kk st r hr, kx st r hr, Ins.iv]
  · refine ⟨.out a, w4, fun _ _ => ra, .def_ (as := [.int m]) (Ins.low _) rfl fun st r hr => ?_⟩
    simp [B_law_instruction, startE, kd st r hr, ka st r hr, kb st r hr, kk st r hr, Ins.iv]
  · refine ⟨.idle, w4, fun _ _ => trivial, .def_ (as := [.int m]) (Ins.low _) rfl fun st r hr => ?_⟩
    simp [B_law_instruction, startE, kd st r hr, ka st r hr, kb st r hr, kk st r hr, Ins.iv]
end MP.Lw

set_option linter.all false
set_option autoImplicit false
set_option Elab.async false
set_option maxRecDepth 100000
namespace MP.Lw
open PySem
/-! ### keys of any text, displays, sorted data: the steps -/
section
variable {G : Orc} {me : FnDef} {fu : Nat} {env : Env} {st : Store} {e e1 e2 e3 : E} {ks es : List E} {xs ys k : List IV} {vs : List TV} {x X u : TV} {y z : IV} {nm : Str} {pos : Bool} {r : Nat} {kvs : List (IV × IV)}
def asK : TV → Store → Res IV := fun x st => match x with | .v k => .ok k st | _ => .bad
@[simp] theorem asK_s : asK (.v y) st = .ok y st := id rfl
@[simp] theorem asKey_s {q : Res TV} : asKey q = q.bind asK := id rfl
def kgK2 (x : TV) : IV → Store → Res TV := fun k st => kgetM x k st
@[simp] theorem kgK2_s : kgK2 x y st = kgetM x y st := id rfl
def kgK (G : Orc) (me : FnDef) (e2 : E) (env : Env) : TV → Store → Res TV := fun x st => (asKey (evE G me e2 env st)).bind (kgK2 x)
@[simp] theorem kgK_s : kgK G me e2 env X st = (asKey (evE G me e2 env st)).bind (kgK2 X) := id rfl
@[simp] theorem e_kget : evE G me (.kget e1 e2) env st = (evE G me e1 env st).bind (kgK G me e2 env) := by simp only [evE]; rfl
def kdK3 (x : TV) (k : IV) : TV → Store → Res TV := fun y st => kgetDM x k y st
@[simp] theorem kdK3_s : kdK3 x y X st = kgetDM x y X st := id rfl
def kdK2 (G : Orc) (me : FnDef) (e : E) (env : Env) (x : TV) : IV → Store → Res TV := fun k st => (evE G me e env st).bind (kdK3 x k)
@[simp] theorem kdK2_s : kdK2 G me e env x y st = (evE G me e env st).bind (kdK3 x y) := id rfl
def kdK (G : Orc) (me : FnDef) (e2 e : E) (env : Env) : TV → Store → Res TV := fun x st => if isDict st x then (asKey (evE G me e2 env st)).bind (kdK2 G me e env x) else .bad
@[simp] theorem kdK_s : kdK G me e2 e env X st = if isDict st X then (asKey (evE G me e2 env st)).bind (kdK2 G me e env X) else .bad := id rfl
@[simp] theorem e_kgetD : evE G me (.kgetD e1 e2 e) env st = (evE G me e1 env st).bind (kdK G me e2 e env) := by simp only [evE]; rfl
def kiK2 (pos : Bool) (k : IV) : TV → Store → Res TV := fun x st => kinM pos x k st
@[simp] theorem kiK2_s : kiK2 pos y X st = kinM pos X y st := id rfl
def kiK (G : Orc) (me : FnDef) (pos : Bool) (e : E) (env : Env) : IV → Store → Res TV := fun k st => (evE G me e env st).bind (kiK2 pos k)
@[simp] theorem kiK_s : kiK G me pos e env y st = (evE G me e env st).bind (kiK2 pos y) := id rfl
@[simp] theorem e_kin : evE G me (.kin pos e1 e) env st = (asKey (evE G me e1 env st)).bind (kiK G me pos e env) := by simp only [evE]; rfl
@[simp] theorem e_knew : evE G me .knew env st = .ok (.v (.ref st.length)) (st ++ [.dk []]) := by simp only [evE]
def kdiK2 (xs : List IV) : List IV → Store → Res TV := fun ys st => .ok (.v (.ref st.length)) (st ++ [.dk (kDisp xs ys [])])
@[simp] theorem kdiK2_s : kdiK2 xs ys st = .ok (.v (.ref st.length)) (st ++ [.dk (kDisp xs ys [])]) := id rfl
def kdiK (xs : List IV) : List TV → Store → Res TV := fun ws st => (mats ws st).bind (kdiK2 xs)
@[simp] theorem kdiK_s : kdiK xs vs st = (mats vs st).bind (kdiK2 xs) := id rfl
@[simp] theorem e_kdisp : evE G me (.kdisp ks es) env st = oM (constsOf ks) (fun xs => if xs.all IV.key1 && decide (xs.length ≤ 15) then (evEs G me es env st).bind (kdiK xs) else .bad) .bad := by
  simp only [evE]
  rcases constsOf ks with _ | xs <;> rfl
@[simp] theorem consts_nil : constsOf [] = some [] := id rfl
@[simp] theorem consts_cons {r : List E} : constsOf (.c y :: r) = (constsOf r).map (y :: ·) := id rfl
@[simp] theorem kDisp_cons {v : IV} {acc : List (IV × IV)} : kDisp (y :: xs) (v :: ys) acc = kDisp xs ys (kPut1 y v acc) := id rfl
@[simp] theorem kDisp_nil {acc : List (IV × IV)} : kDisp [] ys acc = acc := by cases ys <;> rfl
def dmkK : TV → Store → Res TV := fun x st => dmkM x st
@[simp] theorem dmkK_s : dmkK X st = dmkM X st := id rfl
@[simp] theorem e_dmk : evE G me (.dmk e) env st = (evE G me e env st).bind dmkK := by simp only [evE]; rfl
def dliK : TV → Store → Res TV := fun x st => dlistM x st
@[simp] theorem dliK_s : dliK X st = dlistM X st := id rfl
@[simp] theorem e_dlist : evE G me (.dlist e) env st = (evE G me e env st).bind dliK := by simp only [evE]; rfl
def srtK : TV → Store → Res TV := fun x st => sortM x st
@[simp] theorem srtK_s : srtK X st = sortM X st := id rfl
@[simp] theorem e_sortT : evE G me (.sortT e) env st = (evE G me e env st).bind srtK := by simp only [evE]; rfl
theorem sort_l (h : srtOk xs = true) : sortM (.l xs) st = .ok (.l (sortIV xs)) st := by simp [sortM, itemsL, h]
theorem sort_ref (h0 : st[r]? = some (.lst xs)) (h : srtOk xs = true) : sortM (.v (.ref r)) st = .ok (.l (sortIV xs)) st := by simp [sortM, itemsL, h0, h]
theorem dlist_E : dlistM (.v (.ref r)) st = oM (dicR st[r]?) (fun kvs => .ok (.l (kvs.map (·.1))) st) .bad := by
  simp only [dlistM, dic_E]
  rcases dicR st[r]? with _ | kvs <;> rfl
/-- the inner turns of a comprehension -/
def innK (G : Orc) (me : FnDef) (q : Sq) (own1 : List Nat) (p1 : Pt) (it1 : It) (es1 : List E) (e : E) : Env → List IV → Store → Res TV := fun env acc st => (evIt G me it1 env st).bind fun q1 st => compG (fun st => q1.stays st && q.stays st) { env with sl := wipeN env.sl own1, lm := [] } (compT G me p1) (evIfs G me es1) (evE G me e) q1.xs acc st
def comp2K (G : Orc) (me : FnDef) (own own1 : List Nat) (p : Pt) (es : List E) (p1 : Pt) (it1 : It) (es1 : List E) (e : E) (env : Env) : Sq → Store → Res TV := fun q st => compF2 q { env with sl := wipeN env.sl own, lm := [] } (compT G me p) (evIfs G me es) (innK G me q own1 p1 it1 es1 e) q.xs [] st
@[simp] theorem comp2K_s {own own1 : List Nat} {p p1 : Pt} {it1 : It} {es1 : List E} {q : Sq} : comp2K G me own own1 p es p1 it1 es1 e env q st = compF2 q { env with sl := wipeN env.sl own, lm := [] } (compT G me p) (evIfs G me es) (innK G me q own1 p1 it1 es1 e) q.xs [] st := id rfl
@[simp] theorem e_comp2 {own own1 : List Nat} {p p1 : Pt} {it it1 : It} {es1 : List E} : evE G me (.comp2 own own1 p it es p1 it1 es1 e) env st = (evIt G me it env st).bind (comp2K G me own own1 p es p1 it1 es1 e env) := by
  simp only [evE]; rfl
def kpK4 (env : Env) (z : IV) (x : TV) : IV → Store → RS := fun k st => oM (kputO x k z st) (fun st => .nx env st) .bad
@[simp] theorem kpK4_s : kpK4 env z x y st = oM (kputO x y z st) (fun st => .nx env st) .bad := id rfl
def kpK3 (G : Orc) (me : FnDef) (e2 : E) (env : Env) (z : IV) : TV → Store → RS := fun x st => (asKey (evE G me e2 env st)).run env (kpK4 env z x)
@[simp] theorem kpK3_s : kpK3 G me e2 env z X st = (asKey (evE G me e2 env st)).run env (kpK4 env z X) := id rfl
def kpK2 (G : Orc) (me : FnDef) (e1 e2 : E) (env : Env) : IV → Store → RS := fun z st => (evE G me e1 env st).run env (kpK3 G me e2 env z)
@[simp] theorem kpK2_s : kpK2 G me e1 e2 env z st = (evE G me e1 env st).run env (kpK3 G me e2 env z) := id rfl
def kpK (G : Orc) (me : FnDef) (e1 e2 : E) (env : Env) : TV → Store → RS := fun y st => (mat y st).run env (kpK2 G me e1 e2 env)
@[simp] theorem kpK_s : kpK G me e1 e2 env X st = (mat X st).run env (kpK2 G me e1 e2 env) := id rfl
@[simp] theorem s_kput_ : evS G me fu (.kput e1 e2 e) env st = (evE G me e env st).run env (kpK G me e1 e2 env) := by
  simp only [evS]
  congr 1
  funext y st
  simp only [kpK_s]
  congr 1
  funext z st
  simp only [kpK2_s]
  congr 1
  funext x st
  simp only [kpK3_s]
  congr 1
  funext k st
  simp only [kpK4_s]
  rcases kputO x k z st with _ | st <;> rfl
def isDR : Option IO → Bool
  | some (.dic _) => true
  | some (.dk _) => true
  | _ => false
@[simp] theorem isDR_dic : isDR (some (.dic kvs)) = true := id rfl
@[simp] theorem isDR_dk : isDR (some (.dk kvs)) = true := id rfl
theorem isDict_E : isDict st (.v (.ref r)) = isDR st[r]? := by
  simp only [isDict]
  rcases st[r]? with _ | (_ | _ | _ | _) <;> rfl
/-- what stands under a key of the dict at r -/
def kgetR (k : IV) : Option IO → Option (Option IV)
  | some (.dic kvs) => (match k with | .tup xs => if keyT xs then some (kLook xs kvs) else none | _ => none)
  | some (.dk kvs) => if k.key1 then some (kLook1 k kvs) else none
  | _ => none
theorem kgetO_E : kgetO (.v (.ref r)) y st = kgetR y st[r]? := by
  simp only [kgetO]
  rcases st[r]? with _ | (_ | _ | _ | _) <;> rfl
@[simp] theorem kgetR_dk : kgetR y (some (.dk kvs)) = if y.key1 then some (kLook1 y kvs) else none := id rfl
@[simp] theorem kgetR_dic : kgetR (.tup k) (some (.dic kvs)) = if keyT k then some (kLook k kvs) else none := id rfl
theorem kget_E : kgetM (.v (.ref r)) y st = oM (kgetR y st[r]?) (fun o => oM o (fun v => .ok (.v v) st) .bad) .bad := by
  simp only [kgetM, kgetO_E]
  rcases kgetR y st[r]? with _ | _ | v <;> rfl
theorem kgetD_E : kgetDM (.v (.ref r)) y (.v z) st = oM (kgetR y st[r]?) (fun o => .ok (.v (o.getD z)) st) .bad := by
  simp only [kgetDM, kgetO_E]
  rcases kgetR y st[r]? with _ | v <;> rfl
theorem kin_E : kinM pos (.v (.ref r)) y st = oM (kgetR y st[r]?) (fun o => .ok (.v (.bl (if pos then o.isSome else !o.isSome))) st) .bad := by
  simp only [kinM, kgetO_E]
  rcases kgetR y st[r]? with _ | v <;> rfl
def kputR (r : Nat) (k z : IV) (st : Store) : Option IO → Option Store
  | some (.dic kvs) => (match k with | .tup xs => if keyT xs && decide (kvs.length < lineN) then some (st.set r (.dic (kPut xs z kvs))) else none | _ => none)
  | some (.dk kvs) => if k.key1 && decide (kvs.length < lineN) then some (st.set r (.dk (kPut1 k z kvs))) else none
  | _ => none
theorem kputO_E : kputO (.v (.ref r)) y z st = kputR r y z st st[r]? := by
  simp only [kputO]
  rcases st[r]? with _ | (_ | _ | _ | _) <;> rfl
@[simp] theorem kputR_dk : kputR r y z st (some (.dk kvs)) = if y.key1 && decide (kvs.length < lineN) then some (st.set r (.dk (kPut1 y z kvs))) else none := id rfl
@[simp] theorem kputR_dic : kputR r (.tup k) z st (some (.dic kvs)) = if keyT k && decide (kvs.length < lineN) then some (st.set r (.dic (kPut k z kvs))) else none := id rfl
end
section
variable {gd : Store → Bool} {q : Sq} {env : Env} {tgt : Env → IV → Store → Res Env} {ifs : Env → Store → Res Bool} {elt : Env → Store → Res TV} {inner : Env → List IV → Store → Res TV} {st : Store}
/-- inner turns that write nothing -/
theorem compG_pure (p : IV → Bool) (g : IV → IV) (hs : gd st = true) : ∀ (xs acc : List IV), (∀ x ∈ xs, ∃ env1, tgt env x st = .ok env1 st ∧ ifs env1 st = .ok (p x) st ∧ (p x = true → elt env1 st = .ok (.v (g x)) st)) → acc.length + xs.length ≤ lineN →
    compG gd env tgt ifs elt xs acc st = .ok (.l (acc ++ (xs.filter p).map g)) st
  | [], acc, _, _ => by simp [compG, hs]
  | x :: xs, acc, h, hl => by
    obtain ⟨env1, h1, h2, h3⟩ := h x List.mem_cons_self
    simp only [List.length_cons] at hl
    simp only [compG, hs, if_true, h1, quiet_ok, bind_ok, h2]
    cases hp : p x with
    | false =>
      simp only [Bool.false_eq_true, if_false]
      rw [compG_pure p g hs xs acc (fun y hy => h y (List.mem_cons_of_mem _ hy)) (by omega), List.filter_cons_of_neg (by simp [hp])]
    | true =>
      rw [List.filter_cons_of_pos hp]
      have lt : acc.length < lineN := by omega
      simp only [if_true, h3 hp, quiet_ok, bind_ok, mat_v, lt]
      rw [compG_pure p g hs xs _ (fun y hy => h y (List.mem_cons_of_mem _ hy)) (by rw [List.length_append, List.length_singleton]; omega), List.append_assoc]
      rfl
/-- both clauses -/
theorem comp2_pure (p : IV → Bool) (g : IV → List IV) (L : Nat) (hs : q.stays st = true) : ∀ (xs acc : List IV), (∀ x ∈ xs, ∃ env1, tgt env x st = .ok env1 st ∧ ifs env1 st = .ok (p x) st ∧ (p x = true → (g x).length ≤ L ∧ ∀ acc : List IV, acc.length + L ≤ lineN → inner env1 acc st = .ok (.l (acc ++ g x)) st)) → acc.length + xs.length * L ≤ lineN →
    compF2 q env tgt ifs inner xs acc st = .ok (.l (acc ++ (xs.filter p).flatMap g)) st
  | [], acc, _, _ => by simp [compF2, hs]
  | x :: xs, acc, h, hl => by
    obtain ⟨env1, h1, h2, h3⟩ := h x List.mem_cons_self
    simp only [List.length_cons, Nat.add_mul, Nat.one_mul] at hl
    simp only [compF2, hs, if_true, h1, quiet_ok, bind_ok, h2]
    cases hp : p x with
    | false =>
      simp only [Bool.false_eq_true, if_false]
      rw [comp2_pure p g L hs xs acc (fun y hy => h y (List.mem_cons_of_mem _ hy)) (by omega), List.filter_cons_of_neg (by simp [hp])]
    | true =>
      rw [List.filter_cons_of_pos hp]
      obtain ⟨k1, k2⟩ := h3 hp
      simp only [if_true, k2 acc (by omega), quiet_ok, bind_ok]
      rw [comp2_pure p g L hs xs _ (fun y hy => h y (List.mem_cons_of_mem _ hy)) (by rw [List.length_append]; omega), List.append_assoc, List.flatMap_cons]
end
end MP.Lw

set_option linter.all false
set_option autoImplicit false
set_option Elab.async false
set_option maxRecDepth 100000
namespace MP
open PySem
abbrev G_ALONE : IV := .tup [.tup [.str "idle"], .tup [.str "set", .int 0, .int 0], .tup [.str "add", .int 0, .int 1, .int 1], .tup [.str "mul", .int 0, .int 1, .int 1], .tup [.str "load", .int 0, .int 2, .int 0], .tup [.str "store", .int 3, .int 2, .int 0], .tup [.str "zero", .int 2, .int 0], .tup [.str "go", .int 0], .tup [.str "out", .int 1]]
abbrev G_IDLE : IV := .tup [.tup [.str "idle"], .bl true]
def B_need_even : List S := [.ite (.or_ (.cmp .ne (.call D_holes_in [.idx (.v 0) (.c (.int 4))]) (.lst [])) [.cmp .ne (.call D_missing_in [.v 0]) (.lst [])]) [.raise 22 "NotMade" []] []]
def D_need_even : FnDef := .mk "need_even" 1 ["design"] B_need_even []
@[simp] theorem D_need_even_b : D_need_even.body = B_need_even := id rfl
@[simp] theorem D_need_even_N : D_need_even.N.length = 1 := id rfl
@[simp] theorem D_need_even_np : D_need_even.np = 1 := id rfl
def B_alone : List S := [.ret (.idx (.g "ALONE" G_ALONE) (.ixN "KINDS" G_KINDS (.v 0)))]
def D_alone : FnDef := .mk "alone" 1 ["kind"] B_alone []
@[simp] theorem D_alone_b : D_alone.body = B_alone := id rfl
@[simp] theorem D_alone_N : D_alone.N.length = 1 := id rfl
@[simp] theorem D_alone_np : D_alone.np = 1 := id rfl
def B_pair_of : List S := [.ite (.cmp .ne (.idx (.v 0) (.c (.int 0))) (.c (.str "value"))) [.ret (.tup [.call D_alone [.idx (.v 0) (.c (.int 1))], .call D_alone [.idx (.v 0) (.c (.int 2))]])] [], .asg (.v 1) (.call D_user_of [.idx (.v 0) (.c (.int 2)), .idx (.v 0) (.c (.int 3)), .c (.int 1)]), .ret (.tup [.call D_alone [.idx (.v 0) (.c (.int 1))], .ite (.cmp .eq (.idx (.v 1) (.c (.int 0))) (.c (.str "zero"))) (.tup [.c (.str "zero"), .c (.int 0), .c (.int 0)]) (.v 1)])]
def D_pair_of : FnDef := .mk "pair_of" 1 ["entry", "later"] B_pair_of []
@[simp] theorem D_pair_of_b : D_pair_of.body = B_pair_of := id rfl
@[simp] theorem D_pair_of_N : D_pair_of.N.length = 2 := id rfl
@[simp] theorem D_pair_of_np : D_pair_of.np = 1 := id rfl
def B_slower_in : List S := [.for_ (.v 2) (.e (.g "KINDS" G_KINDS)) [.ite (.cmp .gt (.call D_last_in [.v 0, .v 2]) (.call D_last_in [.v 1, .v 2])) [.ret (.tup [.tup [.call D_alone [.v 2], .c (.bl true)]])] []], .for_ (.v 3) (.e (.sortT (.call D_entries_apart [.c (.int 1)]))) [.ite (.cmp .gt (.call D_apart_in [.v 0, .v 3]) (.call D_apart_in [.v 1, .v 3])) [.ret (.bin .add (.bi .tuple [.comp [4] (.v 4) (.e (.call D_pair_of [.v 3])) [] (.tup [.v 4, .c (.bl true)])]) (.bin .mul (.tup [.g "IDLE" G_IDLE]) (.c (.int 8))))] []], .ret (.c (.non))]
def D_slower_in : FnDef := .mk "slower_in" 2 ["one", "other", "kind", "entry", "instruction"] B_slower_in []
@[simp] theorem D_slower_in_b : D_slower_in.body = B_slower_in := id rfl
@[simp] theorem D_slower_in_N : D_slower_in.N.length = 5 := id rfl
@[simp] theorem D_slower_in_np : D_slower_in.np = 2 := id rfl
def B_slower_trace : List S := [.ex (.call D_need_design [.v 0]), .ex (.call D_need_design [.v 1]), .ex (.call D_need_even [.v 0]), .ex (.call D_need_even [.v 1]), .ret (.call D_slower_in [.v 0, .v 1])]
def D_slower_trace : FnDef := .mk "slower_trace" 2 ["one", "other"] B_slower_trace []
@[simp] theorem D_slower_trace_b : D_slower_trace.body = B_slower_trace := id rfl
@[simp] theorem D_slower_trace_N : D_slower_trace.N.length = 2 := id rfl
@[simp] theorem D_slower_trace_np : D_slower_trace.np = 2 := id rfl
def B_law_even : List S := [.asg (.v 2) (.dmk (.comp [3] (.v 3) (.e (.call D_law_more [.v 0, .call D_law_least [.v 1], .c (.int 4)])) [] (.tup [.v 3, .c (.bl true)]))), .for_ (.v 3) (.e (.dlist (.v 2))) [.for_ (.v 4) (.rng2 (.c (.int 1)) (.idx (.v 3) (.neg (.c (.int 1))))) [.kput (.v 2) (.bin .add (.sl (.v 3) (.nob) (.neg (.c (.int 1)))) (.tup [.v 4])) (.c (.bl true))]], .ret (.bin .add (.sl (.v 1) (.nob) (.c (.int 4))) (.tup [.bi .tuple [.sortT (.dlist (.v 2))]]))]
def D_law_even : FnDef := .mk "_law_even" 2 ["_law_row", "_law_design_here", "_law_waits", "_law_entry", "_law_d"] B_law_even []
@[simp] theorem D_law_even_b : D_law_even.body = B_law_even := id rfl
@[simp] theorem D_law_even_N : D_law_even.N.length = 5 := id rfl
@[simp] theorem D_law_even_np : D_law_even.np = 2 := id rfl
def B_law_apart : List S := [.asg (.v 2) (.comp [3] (.v 3) (.e (.idx (.v 0) (.c (.int 4)))) [.cmp .eq (.sl (.v 3) (.nob) (.neg (.c (.int 1)))) (.sl (.v 1) (.nob) (.neg (.c (.int 1))))] (.idx (.v 3) (.neg (.c (.int 1))))), .ite (.cmp .eq (.sl (.v 1) (.nob) (.c (.int 3))) (.tup [.c (.str "value"), .c (.str "load"), .c (.str "store")])) [.asg (.v 2) (.bin .add (.v 2) (.comp [3] (.v 3) (.e (.idx (.v 0) (.c (.int 4)))) [.cmp .eq (.sl (.v 3) (.nob) (.neg (.c (.int 1)))) (.tup [.c (.str "memory"), .c (.str "load"), .c (.str "store")])] (.idx (.v 3) (.neg (.c (.int 1))))))] [], .ret (.bin .add (.bi .max [.bin .add (.lst [.c (.int 0)]) (.v 2)]) (.c (.int 1)))]
def D_law_apart : FnDef := .mk "_law_apart" 2 ["_law_design_here", "_law_entry", "_law_some", "_law_one"] B_law_apart []
@[simp] theorem D_law_apart_b : D_law_apart.body = B_law_apart := id rfl
@[simp] theorem D_law_apart_N : D_law_apart.N.length = 4 := id rfl
@[simp] theorem D_law_apart_np : D_law_apart.np = 2 := id rfl
def B_law_alone : List S := [.asg (.v 1) (.lst [.tup [.c (.str "idle")], .tup [.c (.str "set"), .c (.int 0), .c (.int 0)], .tup [.c (.str "add"), .c (.int 0), .c (.int 1), .c (.int 1)], .tup [.c (.str "mul"), .c (.int 0), .c (.int 1), .c (.int 1)], .tup [.c (.str "load"), .c (.int 0), .c (.int 2), .c (.int 0)], .tup [.c (.str "store"), .c (.int 3), .c (.int 2), .c (.int 0)], .tup [.c (.str "zero"), .c (.int 2), .c (.int 0)]]), .asg (.v 1) (.bin .add (.v 1) (.lst [.tup [.c (.str "go"), .c (.int 0)], .tup [.c (.str "out"), .c (.int 1)]])), .ret (.idx (.v 1) (.ixof false (.lst [.c (.str "idle"), .c (.str "set"), .c (.str "sum"), .c (.str "mul"), .c (.str "load"), .c (.str "store"), .c (.str "zero"), .c (.str "go"), .c (.str "out")]) (.v 0)))]
def D_law_alone : FnDef := .mk "_law_alone" 1 ["_law_kind", "_law_some"] B_law_alone []
@[simp] theorem D_law_alone_b : D_law_alone.body = B_law_alone := id rfl
@[simp] theorem D_law_alone_N : D_law_alone.N.length = 2 := id rfl
@[simp] theorem D_law_alone_np : D_law_alone.np = 1 := id rfl
def B_law_later : List S := [.ite (.cmp .ne (.idx (.v 0) (.c (.int 0))) (.c (.str "value"))) [.ret (.call D_law_alone [.idx (.v 0) (.c (.int 2))])] [], .ite (.cmp .eq (.sl (.v 0) (.c (.int 2)) (.c (.int 4))) (.tup [.c (.str "store"), .c (.str "b")])) [.ret (.tup [.c (.str "store"), .c (.int 0), .c (.int 3), .c (.int 0)])] [], .asg (.v 1) (.kdisp [.c (.str "sum"), .c (.str "mul"), .c (.str "load"), .c (.str "store")] [.tup [.c (.str "add"), .c (.int 5), .c (.int 0), .c (.int 4)], .tup [.c (.str "mul"), .c (.int 5), .c (.int 0), .c (.int 4)], .tup [.c (.str "load"), .c (.int 5), .c (.int 0), .c (.int 0)], .tup [.c (.str "store"), .c (.int 4), .c (.int 0), .c (.int 0)]]), .ret (.kgetD (.v 1) (.idx (.v 0) (.c (.int 2))) (.ite (.cmp .eq (.idx (.v 0) (.c (.int 2))) (.c (.str "zero"))) (.tup [.idx (.v 0) (.c (.int 2)), .c (.int 0), .c (.int 0)]) (.tup [.idx (.v 0) (.c (.int 2)), .c (.int 0)])))]
def D_law_later : FnDef := .mk "_law_later" 1 ["_law_entry", "_law_some"] B_law_later []
@[simp] theorem D_law_later_b : D_law_later.body = B_law_later := id rfl
@[simp] theorem D_law_later_N : D_law_later.N.length = 2 := id rfl
@[simp] theorem D_law_later_np : D_law_later.np = 1 := id rfl
def B_law_2 : List S := [.asg (.v 1) (.lst [.v 0, .c (.int 0), .c (.int 14321), .c (.int 0)]), .asg (.tup [.v 2, .v 3]) (.tup [.call D_law_even [.v 1, .call D_law_design_2 [.v 1]], .call D_law_even [.v 1, .call D_law_design_2 [.v 1]]]), .ite (.cmp .eq (.call D_law_taken [.v 1, .c (.int 2)]) (.c (.int 0))) [.asg (.v 3) (.call D_law_even [.v 1, .bin .add (.sl (.v 2) (.nob) (.c (.int 4))) (.tup [.tup []])]), .asg (.tup [.v 3, .v 2]) (.tup [.v 2, .v 3])] [], .asg (.tup [.v 4, .v 5]) (.tup [.call D_law_places [.v 2], .call D_law_places [.v 3]]), .asg (.tup [.v 6, .v 7]) (.tup [.c (.non), .bin .mul (.tup [.tup [.tup [.c (.str "idle")], .c (.bl true)]]) (.c (.int 8))]), .for_ (.v 8) (.e (.lst [.c (.str "idle"), .c (.str "set"), .c (.str "sum"), .c (.str "mul"), .c (.str "load"), .c (.str "store"), .c (.str "zero"), .c (.str "go"), .c (.str "out")])) [.ite (.and_ (.isN (.v 6)) [.cmp .gt (.call D_law_last [.v 4, .v 8]) (.call D_law_last [.v 5, .v 8])]) [.asg (.v 6) (.tup [.tup [.call D_law_alone [.v 8], .c (.bl true)]])] []], .for_ (.v 9) (.e (.comp [9] (.v 9) (.e (.call D_law_entries [])) [.cmp .eq (.idx (.v 9) (.neg (.c (.int 1)))) (.c (.int 1))] (.v 9))) [.ite (.and_ (.isN (.v 6)) [.cmp .gt (.call D_law_apart [.v 2, .v 9]) (.call D_law_apart [.v 3, .v 9])]) [.asg (.v 6) (.bin .add (.tup [.tup [.call D_law_alone [.idx (.v 9) (.c (.int 1))], .c (.bl true)], .tup [.call D_law_later [.v 9], .c (.bl true)]]) (.v 7))] []], .ret (.call D_law_alike [.call D_slower_trace [.v 2, .v 3], .v 6])]
def D_law_2 : FnDef := .mk "law" 1 ["_law_script", "_law_row", "_law_one", "_law_other", "_law_mine", "_law_its", "_law_due", "_law_idles", "_law_kind", "_law_entry"] B_law_2 []
@[simp] theorem D_law_2_b : D_law_2.body = B_law_2 := id rfl
@[simp] theorem D_law_2_N : D_law_2.N.length = 10 := id rfl
@[simp] theorem D_law_2_np : D_law_2.np = 1 := id rfl
end MP

set_option linter.all false
set_option autoImplicit false
set_option Elab.async false
set_option maxRecDepth 100000
namespace MP
open PySem
abbrev G_MOST_SHOWN : IV := .int 1000
abbrev G_MOST_STEPS : IV := .int 1000
def B_need_program : List S := [.ite (.not_ (.call D_is_list [.v 0, .c (.int 0), .g "MOST_INSTRUCTIONS" G_MOST_INSTRUCTIONS])) [.raise 3 "BadProgram" [.c (.non)]] [], .for_ (.v 1) (.rng1 (.bi .len [.v 0])) [.ite (.not_ (.call D_is_instruction_up_to [.idx (.v 0) (.v 1), .bi .len [.v 0]])) [.raise 3 "BadProgram" [.v 1]] []]]
def D_need_program : FnDef := .mk "need_program" 1 ["program", "index"] B_need_program []
@[simp] theorem D_need_program_b : D_need_program.body = B_need_program := id rfl
@[simp] theorem D_need_program_N : D_need_program.N.length = 2 := id rfl
@[simp] theorem D_need_program_np : D_need_program.np = 1 := id rfl
def B_are_words : List S := [.ret (.and_ (.call D_is_list [.v 0, .v 1, .v 2]) [.bi .all [.comp [3] (.v 3) (.e (.v 0)) [] (.call D_is_word [.v 3])]])]
def D_are_words : FnDef := .mk "are_words" 3 ["value", "least", "most", "one"] B_are_words []
@[simp] theorem D_are_words_b : D_are_words.body = B_are_words := id rfl
@[simp] theorem D_are_words_N : D_are_words.N.length = 4 := id rfl
@[simp] theorem D_are_words_np : D_are_words.np = 3 := id rfl
def B_need_state : List S := [.ite (.or_ (.not_ (.call D_is_list [.v 0, .c (.int 3), .c (.int 3)])) [.not_ (.call D_are_words [.idx (.v 0) (.c (.int 0)), .g "REGISTERS" G_REGISTERS, .g "REGISTERS" G_REGISTERS])]) [.raise 5 "BadState" []] [], .ite (.or_ (.not_ (.call D_are_words [.idx (.v 0) (.c (.int 1)), .g "CELLS" G_CELLS, .g "CELLS" G_CELLS])) [.not_ (.call D_are_words [.idx (.v 0) (.c (.int 2)), .c (.int 0), .g "MOST_SHOWN" G_MOST_SHOWN])]) [.raise 5 "BadState" []] []]
def D_need_state : FnDef := .mk "need_state" 1 ["state"] B_need_state []
@[simp] theorem D_need_state_b : D_need_state.body = B_need_state := id rfl
@[simp] theorem D_need_state_N : D_need_state.N.length = 1 := id rfl
@[simp] theorem D_need_state_np : D_need_state.np = 1 := id rfl
def B_goal_of : List S := [.ret (.idx (.v 0) (.neg (.c (.int 1))))]
def D_goal_of : FnDef := .mk "goal_of" 1 ["instruction"] B_goal_of []
@[simp] theorem D_goal_of_b : D_goal_of.body = B_goal_of := id rfl
@[simp] theorem D_goal_of_N : D_goal_of.N.length = 1 := id rfl
@[simp] theorem D_goal_of_np : D_goal_of.np = 1 := id rfl
def B_result_of : List S := [.asg (.v 2) (.idx (.v 0) (.c (.int 0))), .ite (.cmp .eq (.v 2) (.c (.str "set"))) [.ret (.idx (.v 0) (.c (.int 2)))] [], .ite (.cmp .eq (.v 2) (.c (.str "add"))) [.ret (.call D_sum_of [.idx (.v 1) (.c (.int 0)), .idx (.v 1) (.c (.int 1))])] [], .ite (.cmp .eq (.v 2) (.c (.str "sub"))) [.ret (.call D_rest_of [.idx (.v 1) (.c (.int 0)), .idx (.v 1) (.c (.int 1))])] [], .ite (.cmp .eq (.v 2) (.c (.str "and"))) [.ret (.call D_common_of [.idx (.v 1) (.c (.int 0)), .idx (.v 1) (.c (.int 1))])] [], .ite (.cmp .eq (.v 2) (.c (.str "less"))) [.ret (.call D_lesser_of [.idx (.v 1) (.c (.int 0)), .idx (.v 1) (.c (.int 1))])] [], .ret (.call D_product_of [.idx (.v 1) (.c (.int 0)), .idx (.v 1) (.c (.int 1))])]
def D_result_of : FnDef := .mk "result_of" 2 ["instruction", "words", "word"] B_result_of []
@[simp] theorem D_result_of_b : D_result_of.body = B_result_of := id rfl
@[simp] theorem D_result_of_N : D_result_of.N.length = 3 := id rfl
@[simp] theorem D_result_of_np : D_result_of.np = 2 := id rfl
def B_cell_of : List S := [.ret (.bin .mod (.bin .add (.v 1) (.idx (.v 0) (.c (.int 3)))) (.g "CELLS" G_CELLS))]
def D_cell_of : FnDef := .mk "cell_of" 2 ["instruction", "base"] B_cell_of []
@[simp] theorem D_cell_of_b : D_cell_of.body = B_cell_of := id rfl
@[simp] theorem D_cell_of_N : D_cell_of.N.length = 2 := id rfl
@[simp] theorem D_cell_of_np : D_cell_of.np = 2 := id rfl
def B_changed : List S := [.ret (.bin .add (.bin .add (.sl (.v 0) (.nob) (.v 1)) (.tup [.v 2])) (.sl (.v 0) (.bin .add (.v 1) (.c (.int 1))) (.nob)))]
def D_changed : FnDef := .mk "changed" 3 ["row", "place", "value"] B_changed []
@[simp] theorem D_changed_b : D_changed.body = B_changed := id rfl
@[simp] theorem D_changed_N : D_changed.N.length = 3 := id rfl
@[simp] theorem D_changed_np : D_changed.np = 3 := id rfl
def B_step_in : List S := [.asg (.tup [.v 3, .tup [.v 4, .v 5, .v 6]]) (.tup [.idx (.v 0) (.v 2), .v 1]), .asg (.tup [.v 7, .v 8]) (.tup [.call D_kind_in [.v 3], .comp [9, 10] (.tup [.v 9, .v 10]) (.e (.call D_uses_of [.v 3])) [] (.idx (.v 4) (.v 10))]), .ite (.cmp .inn (.v 7) (.tup [.c (.str "set"), .c (.str "sum"), .c (.str "mul")])) [.asg (.v 4) (.call D_changed [.v 4, .idx (.v 3) (.c (.int 1)), .call D_result_of [.v 3, .v 8]])] [.ite (.cmp .eq (.v 7) (.c (.str "load"))) [.asg (.v 4) (.call D_changed [.v 4, .idx (.v 3) (.c (.int 1)), .idx (.v 5) (.call D_cell_of [.v 3, .idx (.v 8) (.c (.int 0))])])] [.ite (.cmp .eq (.v 7) (.c (.str "store"))) [.asg (.v 5) (.call D_changed [.v 5, .call D_cell_of [.v 3, .idx (.v 8) (.c (.int 0))], .idx (.v 8) (.c (.int 1))])] [.ite (.cmp .eq (.v 7) (.c (.str "out"))) [.asg (.v 6) (.bin .add (.v 6) (.tup [.idx (.v 8) (.c (.int 0))]))] []]]], .asg (.v 1) (.tup [.v 4, .v 5, .v 6]), .ite (.or_ (.cmp .eq (.v 7) (.c (.str "go"))) [.and_ (.cmp .eq (.v 7) (.c (.str "zero"))) [.cmp .eq (.idx (.v 8) (.c (.int 0))) (.c (.int 0))]]) [.ret (.tup [.v 1, .call D_goal_of [.v 3]])] [], .ret (.tup [.v 1, .bin .add (.v 2) (.c (.int 1))])]
def D_step_in : FnDef := .mk "step_in" 3 ["program", "state", "at", "instruction", "registers", "cells", "shown", "kind", "words", "role", "reg"] B_step_in []
@[simp] theorem D_step_in_b : D_step_in.body = B_step_in := id rfl
@[simp] theorem D_step_in_N : D_step_in.N.length = 11 := id rfl
@[simp] theorem D_step_in_np : D_step_in.np = 3 := id rfl
def B_run_in : List S := [.asg (.tup [.v 3, .v 4]) (.tup [.c (.int 0), .c (.int 0)]), .whl (.and_ (.cmp .lt (.v 3) (.bi .len [.v 0])) [.cmp .lt (.v 4) (.v 2)]) [.asg (.tup [.v 1, .v 3]) (.call D_step_in [.v 0, .v 1, .v 3]), .aug 4 .add (.c (.int 1))], .ret (.tup [.v 1, .v 3, .v 4])]
def D_run_in : FnDef := .mk "run_in" 3 ["program", "state", "most", "at", "done"] B_run_in []
@[simp] theorem D_run_in_b : D_run_in.body = B_run_in := id rfl
@[simp] theorem D_run_in_N : D_run_in.N.length = 5 := id rfl
@[simp] theorem D_run_in_np : D_run_in.np = 3 := id rfl
def B_stepped : List S := [.ex (.call D_need_program [.v 0]), .ex (.call D_need_state [.v 1]), .ite (.not_ (.call D_is_in [.v 2, .c (.int 0), .bin .sub (.bi .len [.v 0]) (.c (.int 1))])) [.raise 1 "BadNumber" []] [], .ret (.call D_step_in [.v 0, .v 1, .v 2])]
def D_stepped : FnDef := .mk "stepped" 3 ["program", "state", "at"] B_stepped []
@[simp] theorem D_stepped_b : D_stepped.body = B_stepped := id rfl
@[simp] theorem D_stepped_N : D_stepped.N.length = 3 := id rfl
@[simp] theorem D_stepped_np : D_stepped.np = 3 := id rfl
def B_ran : List S := [.ex (.call D_need_program [.v 0]), .ex (.call D_need_state [.v 1]), .ite (.not_ (.call D_is_in [.v 2, .c (.int 0), .g "MOST_STEPS" G_MOST_STEPS])) [.raise 1 "BadNumber" []] [], .ret (.call D_run_in [.v 0, .v 1, .v 2])]
def D_ran : FnDef := .mk "ran" 3 ["program", "state", "most"] B_ran []
@[simp] theorem D_ran_b : D_ran.body = B_ran := id rfl
@[simp] theorem D_ran_N : D_ran.N.length = 3 := id rfl
@[simp] theorem D_ran_np : D_ran.np = 3 := id rfl
def B_ended : List S := [.ex (.call D_need_program [.v 0]), .ex (.call D_need_state [.v 1]), .asg (.tup [.v 1, .v 2, .v 3]) (.call D_run_in [.v 0, .v 1, .g "MOST_STEPS" G_MOST_STEPS]), .ite (.cmp .lt (.v 2) (.bi .len [.v 0])) [.raise 23 "TooLong" [.g "MOST_STEPS" G_MOST_STEPS]] [], .ret (.tup [.v 1, .v 3])]
def D_ended : FnDef := .mk "ended" 2 ["program", "state", "at", "done"] B_ended []
@[simp] theorem D_ended_b : D_ended.body = B_ended := id rfl
@[simp] theorem D_ended_N : D_ended.N.length = 4 := id rfl
@[simp] theorem D_ended_np : D_ended.np = 2 := id rfl
def B_law_program : List S := [.asg (.v 2) (.call D_law_taken [.v 0, .bin .add (.v 1) (.c (.int 1))]), .ret (.bi .tuple [.comp [3] (.v 3) (.rng1 (.v 2)) [] (.call D_law_instruction [.v 0, .v 2])])]
def D_law_program : FnDef := .mk "_law_program" 2 ["_law_row", "_law_most", "_law_many", "_law_turn"] B_law_program []
@[simp] theorem D_law_program_b : D_law_program.body = B_law_program := id rfl
@[simp] theorem D_law_program_N : D_law_program.N.length = 4 := id rfl
@[simp] theorem D_law_program_np : D_law_program.np = 2 := id rfl
def B_law_state : List S := [.asg (.v 1) (.bin .add (.bi .tuple [.comp [2] (.v 2) (.rng1 (.c (.int 4))) [] (.call D_law_word [.v 0])]) (.tup [.c (.int 1), .c (.int 2), .c (.int 3), .c (.int 0)])), .ret (.tup [.v 1, .bin .add (.bi .tuple [.comp [2] (.v 2) (.rng1 (.c (.int 8))) [] (.call D_law_word [.v 0])]) (.tup [.c (.int 7), .c (.int 6), .c (.int 5), .c (.int 4), .c (.int 3), .c (.int 2), .c (.int 1), .c (.int 0)]), .bin .mul (.tup [.c (.int 9)]) (.call D_law_taken [.v 0, .c (.int 2)])])]
def D_law_state : FnDef := .mk "_law_state" 1 ["_law_row", "_law_names", "_law_turn"] B_law_state []
@[simp] theorem D_law_state_b : D_law_state.body = B_law_state := id rfl
@[simp] theorem D_law_state_N : D_law_state.N.length = 3 := id rfl
@[simp] theorem D_law_state_np : D_law_state.np = 1 := id rfl
def B_law_made_2 : List S := [.ite (.cmp .eq (.idx (.v 0) (.c (.int 0))) (.c (.str "set"))) [.ret (.idx (.v 0) (.c (.int 2)))] [], .asg (.tup [.v 2, .v 3]) (.v 1), .ite (.cmp .eq (.idx (.v 0) (.c (.int 0))) (.c (.str "and"))) [.asg (.v 4) (.lst [.c (.int 1), .c (.int 2), .c (.int 4), .c (.int 8), .c (.int 16), .c (.int 32), .c (.int 64), .c (.int 128), .c (.int 256), .c (.int 512), .c (.int 1024), .c (.int 2048), .c (.int 4096), .c (.int 8192), .c (.int 16384), .c (.int 32768)]), .ret (.bi .sum [.comp [5] (.v 5) (.e (.v 4)) [.cmp .eq (.bin .add (.bin .mod (.bi .int [.bin .fdiv (.v 2) (.v 5)]) (.c (.int 2))) (.bin .mod (.bi .int [.bin .fdiv (.v 3) (.v 5)]) (.c (.int 2)))) (.c (.int 2))] (.v 5)])] [], .ite (.cmp .eq (.idx (.v 0) (.c (.int 0))) (.c (.str "less"))) [.ret (.bi .int [.cmp .lt (.v 2) (.v 3)])] [], .asg (.v 6) (.kget (.kdisp [.c (.str "add"), .c (.str "sub"), .c (.str "mul")] [.bin .add (.v 2) (.v 3), .bin .sub (.v 2) (.v 3), .bin .mul (.v 2) (.v 3)]) (.idx (.v 0) (.c (.int 0)))), .ret (.bin .mod (.bi .int [.v 6]) (.c (.int 65536)))]
def D_law_made_2 : FnDef := .mk "_law_made" 2 ["_law_instruction_here", "_law_words", "_law_one", "_law_other", "_law_bits", "_law_bit", "_law_found"] B_law_made_2 []
@[simp] theorem D_law_made_2_b : D_law_made_2.body = B_law_made_2 := id rfl
@[simp] theorem D_law_made_2_N : D_law_made_2.N.length = 7 := id rfl
@[simp] theorem D_law_made_2_np : D_law_made_2.np = 2 := id rfl
def B_law_plain : List S := [.asg (.tup [.v 3, .v 4, .v 5]) (.tup [.bi .list [.idx (.v 1) (.c (.int 0))], .bi .list [.idx (.v 1) (.c (.int 1))], .bi .list [.idx (.v 1) (.c (.int 2))]]), .asg (.tup [.v 6, .v 7]) (.tup [.c (.int 0), .c (.int 0)]), .whl (.and_ (.cmp .lt (.v 6) (.bi .len [.v 0])) [.cmp .lt (.v 7) (.v 2)]) [.asg (.v 8) (.idx (.v 0) (.v 6)), .asg (.tup [.v 9, .v 10]) (.tup [.call D_law_kind [.v 8], .comp [11, 12] (.tup [.v 11, .v 12]) (.e (.call D_law_uses [.v 8])) [] (.idx (.v 3) (.v 12))]), .asg (.tup [.v 6, .v 7]) (.tup [.bin .add (.v 6) (.c (.int 1)), .bin .add (.v 7) (.c (.int 1))]), .ite (.cmp .inn (.v 9) (.lst [.c (.str "set"), .c (.str "sum"), .c (.str "mul")])) [.asg (.idx (.v 3) (.idx (.v 8) (.c (.int 1)))) (.call D_law_made_2 [.v 8, .v 10])] [], .ite (.cmp .eq (.v 9) (.c (.str "load"))) [.asg (.idx (.v 3) (.idx (.v 8) (.c (.int 1)))) (.idx (.v 4) (.bin .mod (.bi .int [.bin .add (.idx (.v 10) (.c (.int 0))) (.idx (.v 8) (.c (.int 3)))]) (.c (.int 16))))] [], .ite (.cmp .eq (.v 9) (.c (.str "store"))) [.asg (.idx (.v 4) (.bin .mod (.bi .int [.bin .add (.idx (.v 10) (.c (.int 0))) (.idx (.v 8) (.c (.int 3)))]) (.c (.int 16)))) (.idx (.v 10) (.c (.int 1)))] [], .ite (.cmp .eq (.v 9) (.c (.str "out"))) [.ex (.bm .append (.v 5) [.idx (.v 10) (.c (.int 0))])] [], .ite (.or_ (.cmp .eq (.v 9) (.c (.str "go"))) [.and_ (.cmp .eq (.v 9) (.c (.str "zero"))) [.cmp .eq (.idx (.v 10) (.c (.int 0))) (.c (.int 0))]]) [.asg (.v 6) (.idx (.v 8) (.neg (.c (.int 1))))] []], .ret (.tup [.tup [.bi .tuple [.v 3], .bi .tuple [.v 4], .bi .tuple [.v 5]], .v 6, .v 7])]
def D_law_plain : FnDef := .mk "_law_plain" 3 ["_law_program_here", "_law_state_here", "_law_most", "_law_names", "_law_cells", "_law_outs", "_law_at", "_law_done", "_law_one", "_law_kind_here", "_law_words", "_law_role", "_law_used"] B_law_plain []
@[simp] theorem D_law_plain_b : D_law_plain.body = B_law_plain := id rfl
@[simp] theorem D_law_plain_N : D_law_plain.N.length = 13 := id rfl
@[simp] theorem D_law_plain_np : D_law_plain.np = 3 := id rfl
def B_fields_of : List S := [.asg (.tup [.v 1, .v 2]) (.tup [.idx (.v 0) (.c (.int 0)), .sl (.v 0) (.c (.int 1)) (.nob)]), .ite (.cmp .eq (.v 1) (.c (.str "set"))) [.ret (.tup [.idx (.v 2) (.c (.int 0)), .c (.int 0), .c (.int 0), .idx (.v 2) (.c (.int 1))])] [], .ite (.or_ (.cmp .inn (.v 1) (.g "SUMS" G_SUMS)) [.cmp .eq (.v 1) (.c (.str "mul"))]) [.ret (.tup [.idx (.v 2) (.c (.int 0)), .idx (.v 2) (.c (.int 1)), .idx (.v 2) (.c (.int 2)), .c (.int 0)])] [], .ite (.cmp .eq (.v 1) (.c (.str "load"))) [.ret (.tup [.idx (.v 2) (.c (.int 0)), .idx (.v 2) (.c (.int 1)), .c (.int 0), .idx (.v 2) (.c (.int 2))])] [], .ite (.cmp .eq (.v 1) (.c (.str "store"))) [.ret (.tup [.c (.int 0), .idx (.v 2) (.c (.int 1)), .idx (.v 2) (.c (.int 0)), .idx (.v 2) (.c (.int 2))])] [], .ite (.cmp .eq (.v 1) (.c (.str "zero"))) [.ret (.tup [.c (.int 0), .idx (.v 2) (.c (.int 0)), .c (.int 0), .idx (.v 2) (.c (.int 1))])] [], .ite (.cmp .eq (.v 1) (.c (.str "go"))) [.ret (.tup [.c (.int 0), .c (.int 0), .c (.int 0), .idx (.v 2) (.c (.int 0))])] [], .ret (.tup [.c (.int 0), .ite (.cmp .eq (.v 1) (.c (.str "out"))) (.idx (.v 2) (.c (.int 0))) (.c (.int 0)), .c (.int 0), .c (.int 0)])]
def D_fields_of : FnDef := .mk "fields_of" 1 ["instruction", "word", "rest"] B_fields_of []
@[simp] theorem D_fields_of_b : D_fields_of.body = B_fields_of := id rfl
@[simp] theorem D_fields_of_N : D_fields_of.N.length = 3 := id rfl
@[simp] theorem D_fields_of_np : D_fields_of.np = 1 := id rfl
def B_code_in : List S := [.asg (.tup [.v 1, .v 2, .v 3, .v 4]) (.call D_fields_of [.v 0]), .ret (.tup [.bin .add (.bin .add (.bin .add (.bin .mul (.c (.int 4096)) (.ixN "WORDS_OF" G_WORDS_OF (.idx (.v 0) (.c (.int 0))))) (.bin .mul (.c (.int 512)) (.v 1))) (.bin .mul (.c (.int 64)) (.v 2))) (.bin .mul (.c (.int 8)) (.v 3)), .v 4])]
def D_code_in : FnDef := .mk "code_in" 1 ["instruction", "d", "a", "b", "number"] B_code_in []
@[simp] theorem D_code_in_b : D_code_in.body = B_code_in := id rfl
@[simp] theorem D_code_in_N : D_code_in.N.length = 5 := id rfl
@[simp] theorem D_code_in_np : D_code_in.np = 1 := id rfl
def B_shaped : List S := [.ite (.cmp .eq (.v 0) (.c (.str "idle"))) [.ret (.tup [.v 0])] [], .ite (.cmp .eq (.v 0) (.c (.str "set"))) [.ret (.tup [.v 0, .v 1, .v 4])] [], .ite (.or_ (.cmp .inn (.v 0) (.g "SUMS" G_SUMS)) [.cmp .eq (.v 0) (.c (.str "mul"))]) [.ret (.tup [.v 0, .v 1, .v 2, .v 3])] [], .ite (.cmp .eq (.v 0) (.c (.str "load"))) [.ret (.tup [.v 0, .v 1, .v 2, .v 4])] [], .ite (.cmp .eq (.v 0) (.c (.str "store"))) [.ret (.tup [.v 0, .v 3, .v 2, .v 4])] [], .ite (.cmp .eq (.v 0) (.c (.str "zero"))) [.ret (.tup [.v 0, .v 2, .v 4])] [], .ret (.ite (.cmp .eq (.v 0) (.c (.str "go"))) (.tup [.v 0, .v 4]) (.tup [.v 0, .v 2]))]
def D_shaped : FnDef := .mk "shaped" 5 ["word", "d", "a", "b", "number"] B_shaped []
@[simp] theorem D_shaped_b : D_shaped.body = B_shaped := id rfl
@[simp] theorem D_shaped_N : D_shaped.N.length = 5 := id rfl
@[simp] theorem D_shaped_np : D_shaped.np = 5 := id rfl
def B_coded_in : List S := [.ite (.cmp .ge (.bin .fdiv (.v 0) (.c (.int 4096))) (.bi .len [.g "WORDS_OF" G_WORDS_OF])) [.ret (.c (.non))] [], .asg (.v 2) (.call D_shaped [.idx (.g "WORDS_OF" G_WORDS_OF) (.bin .fdiv (.v 0) (.c (.int 4096))), .bin .mod (.bin .fdiv (.v 0) (.c (.int 512))) (.c (.int 8)), .bin .mod (.bin .fdiv (.v 0) (.c (.int 64))) (.c (.int 8)), .bin .mod (.bin .fdiv (.v 0) (.c (.int 8))) (.c (.int 8)), .v 1]), .ret (.ite (.and_ (.call D_is_instruction [.v 2]) [.cmp .eq (.call D_code_in [.v 2]) (.tup [.v 0, .v 1])]) (.v 2) (.c (.non)))]
def D_coded_in : FnDef := .mk "coded_in" 2 ["one", "other", "found"] B_coded_in []
@[simp] theorem D_coded_in_b : D_coded_in.body = B_coded_in := id rfl
@[simp] theorem D_coded_in_N : D_coded_in.N.length = 3 := id rfl
@[simp] theorem D_coded_in_np : D_coded_in.np = 2 := id rfl
def B_code : List S := [.ex (.call D_need_instruction [.v 0]), .ret (.call D_code_in [.v 0])]
def D_code : FnDef := .mk "code" 1 ["instruction"] B_code []
@[simp] theorem D_code_b : D_code.body = B_code := id rfl
@[simp] theorem D_code_N : D_code.N.length = 1 := id rfl
@[simp] theorem D_code_np : D_code.np = 1 := id rfl
def B_coded : List S := [.ex (.call D_need_words [.v 0, .v 1]), .ret (.call D_coded_in [.v 0, .v 1])]
def D_coded : FnDef := .mk "coded" 2 ["one", "other"] B_coded []
@[simp] theorem D_coded_b : D_coded.body = B_coded := id rfl
@[simp] theorem D_coded_N : D_coded.N.length = 2 := id rfl
@[simp] theorem D_coded_np : D_coded.np = 2 := id rfl
def B_image : List S := [.ex (.call D_need_program [.v 0]), .asg (.v 1) (.lst []), .for_ (.v 2) (.e (.v 0)) [.ex (.bm .extend (.v 1) [.call D_code_in [.v 2]])], .ret (.bi .tuple [.v 1])]
def D_image : FnDef := .mk "image" 1 ["program", "found", "instruction"] B_image []
@[simp] theorem D_image_b : D_image.body = B_image := id rfl
@[simp] theorem D_image_N : D_image.N.length = 3 := id rfl
@[simp] theorem D_image_np : D_image.np = 1 := id rfl
def B_program_of : List S := [.ite (.not_ (.call D_are_words [.v 0, .c (.int 0), .bin .mul (.c (.int 2)) (.g "MOST_INSTRUCTIONS" G_MOST_INSTRUCTIONS)])) [.raise 6 "BadWords" []] [], .ite (.cmp .eq (.bin .mod (.bi .len [.v 0]) (.c (.int 2))) (.c (.int 1))) [.ret (.c (.non))] [], .asg (.v 1) (.comp [2] (.v 2) (.rng3 (.c (.int 0)) (.bi .len [.v 0]) (.c (.int 2))) [] (.call D_coded_in [.idx (.v 0) (.v 2), .idx (.v 0) (.bin .add (.v 2) (.c (.int 1)))])), .ite (.or_ (.cmp .inn (.c (.non)) (.v 1)) [.not_ (.bi .all [.comp [3] (.v 3) (.e (.v 1)) [] (.call D_is_instruction_up_to [.v 3, .bi .len [.v 1]])])]) [.ret (.c (.non))] [], .ret (.bi .tuple [.v 1])]
def D_program_of : FnDef := .mk "program_of" 1 ["words", "found", "at", "one"] B_program_of []
@[simp] theorem D_program_of_b : D_program_of.body = B_program_of := id rfl
@[simp] theorem D_program_of_N : D_program_of.N.length = 4 := id rfl
@[simp] theorem D_program_of_np : D_program_of.np = 1 := id rfl
def B_law_instruction_2 : List S := [.asg (.tup [.v 2, .v 3, .v 4]) (.tup [.call D_law_taken [.v 0, .c (.int 4)], .call D_law_taken [.v 0, .c (.int 4)], .call D_law_taken [.v 0, .c (.int 4)]]), .asg (.v 5) (.call D_law_taken [.v 0, .c (.int 15)]), .ite (.cmp .lt (.v 5) (.c (.int 4))) [.ret (.tup [.idx (.lst [.c (.str "add"), .c (.str "sub"), .c (.str "and"), .c (.str "less")]) (.v 5), .v 2, .v 3, .v 4])] [], .ite (.cmp .eq (.v 5) (.c (.int 4))) [.ret (.tup [.c (.str "mul"), .v 2, .v 3, .v 4])] [], .ite (.cmp .lt (.v 5) (.c (.int 7))) [.ret (.tup [.c (.str "load"), .v 2, .v 3, .call D_law_taken [.v 0, .c (.int 16)]])] [], .ite (.cmp .lt (.v 5) (.c (.int 9))) [.ret (.tup [.c (.str "store"), .v 4, .v 3, .call D_law_taken [.v 0, .c (.int 3)]])] [], .ite (.cmp .lt (.v 5) (.c (.int 11))) [.ret (.tup [.c (.str "zero"), .v 3, .call D_law_taken [.v 0, .bin .add (.v 1) (.c (.int 1))]])] [], .ite (.cmp .lt (.v 5) (.c (.int 13))) [.ret (.ite (.cmp .eq (.v 5) (.c (.int 11))) (.tup [.c (.str "set"), .v 2, .call D_law_word [.v 0]]) (.tup [.c (.str "go"), .call D_law_taken [.v 0, .bin .add (.v 1) (.c (.int 1))]]))] [], .ret (.ite (.cmp .eq (.v 5) (.c (.int 13))) (.tup [.c (.str "out"), .v 3]) (.tup [.c (.str "idle")]))]
def D_law_instruction_2 : FnDef := .mk "_law_instruction" 2 ["_law_row", "_law_most", "_law_d", "_law_a", "_law_b", "_law_kind"] B_law_instruction_2 []
@[simp] theorem D_law_instruction_2_b : D_law_instruction_2.body = B_law_instruction_2 := id rfl
@[simp] theorem D_law_instruction_2_N : D_law_instruction_2.N.length = 6 := id rfl
@[simp] theorem D_law_instruction_2_np : D_law_instruction_2.np = 2 := id rfl
def B_law_program_2 : List S := [.asg (.v 2) (.call D_law_taken [.v 0, .bin .add (.v 1) (.c (.int 1))]), .ret (.bi .tuple [.comp [3] (.v 3) (.rng1 (.v 2)) [] (.call D_law_instruction_2 [.v 0, .v 2])])]
def D_law_program_2 : FnDef := .mk "_law_program" 2 ["_law_row", "_law_most", "_law_many", "_law_turn"] B_law_program_2 []
@[simp] theorem D_law_program_2_b : D_law_program_2.body = B_law_program_2 := id rfl
@[simp] theorem D_law_program_2_N : D_law_program_2.N.length = 4 := id rfl
@[simp] theorem D_law_program_2_np : D_law_program_2.np = 2 := id rfl
def B_law_code : List S := [.asg (.v 1) (.lst [.c (.str "idle"), .c (.str "set"), .c (.str "add"), .c (.str "sub"), .c (.str "and"), .c (.str "less"), .c (.str "mul"), .c (.str "load"), .c (.str "store"), .c (.str "zero"), .c (.str "go"), .c (.str "out")]), .asg (.v 2) (.kdisp [.c (.str "d"), .c (.str "a"), .c (.str "b"), .c (.str "n")] [.c (.int 0), .c (.int 0), .c (.int 0), .c (.int 0)]), .asg (.v 3) (.kdisp [.c (.str "set"), .c (.str "load"), .c (.str "store"), .c (.str "zero"), .c (.str "go"), .c (.str "out"), .c (.str "idle")] [.c (.str "dn"), .c (.str "dan"), .c (.str "ban"), .c (.str "an"), .c (.str "n"), .c (.str "a"), .c (.str "")]), .asg (.v 4) (.kgetD (.v 3) (.idx (.v 0) (.c (.int 0))) (.c (.str "dab"))), .for_ (.v 5) (.rng1 (.bi .len [.v 4])) [.kput (.v 2) (.idx (.v 4) (.v 5)) (.idx (.v 0) (.bin .add (.v 5) (.c (.int 1))))], .ret (.tup [.bin .add (.bin .add (.bin .add (.bin .mul (.c (.int 4096)) (.ixof false (.v 1) (.idx (.v 0) (.c (.int 0))))) (.bin .mul (.c (.int 512)) (.kget (.v 2) (.c (.str "d"))))) (.bin .mul (.c (.int 64)) (.kget (.v 2) (.c (.str "a"))))) (.bin .mul (.c (.int 8)) (.kget (.v 2) (.c (.str "b")))), .kget (.v 2) (.c (.str "n"))])]
def D_law_code : FnDef := .mk "_law_code" 1 ["_law_one", "_law_names", "_law_found", "_law_shapes", "_law_shape", "_law_k"] B_law_code []
@[simp] theorem D_law_code_b : D_law_code.body = B_law_code := id rfl
@[simp] theorem D_law_code_N : D_law_code.N.length = 6 := id rfl
@[simp] theorem D_law_code_np : D_law_code.np = 1 := id rfl
end MP

set_option linter.all false
set_option autoImplicit false
set_option Elab.async false
set_option maxRecDepth 100000
namespace MP.Lw
open PySem
/-! ### errors that keep a value: the steps -/
section
variable {G : Orc} {me : FnDef} {fu : Nat} {env : Env} {st : Store} {e : E} {x : IV} {c : Nat} {nm : Str}
def raiK (c : Nat) (env : Env) : TV → Store → RS := fun v st => match v with
  | .v x => if x.plain then .exc ⟨c, some x⟩ env st else .bad
  | _ => .bad
@[simp] theorem raiK_s : raiK c env (.v x) st = if x.plain then .exc ⟨c, some x⟩ env st else .bad := id rfl
@[simp] theorem s_raise1 : evS G me fu (.raise c nm [e]) env st = (evE G me e env st).run env (raiK c env) := by
  simp only [evS, evEs]
  rcases evE G me e env st with ⟨v, st1⟩ | ⟨v, st1⟩ | _
  · cases v <;> rfl
  · rfl
  · rfl
theorem e_hFld {ex : Exn} (h : env.hx = some ex) (h1 : ex.cls = c) (h2 : ex.val = some x) : evE G me (.hFld c nm) env st = .ok (.v x) st := by simp only [evE, h, h1, h2, if_true]
theorem mul_tup {xs : List IV} {j : Int} (h0 : 0 ≤ j) (h1 : j ≤ 1000) (h2 : xs.length ≤ 1000) (h3 : 0 < xs.length) : binM .mul (.v (.tup xs)) (.v (.int j)) st = .ok (.v (.tup (List.replicate j.toNat xs).flatten)) st := if_pos ⟨h0, h1, h2, h3⟩
end
end MP.Lw

set_option linter.all false
set_option autoImplicit false
set_option Elab.async false
set_option maxRecDepth 100000
set_option maxHeartbeats 1000000
namespace MP.Lw
open PySem
/-! ### bits in common, as a sum -/
theorem sum_filter (p : Int → Bool) : ∀ l : List Int, (l.filter p).sum = (l.map fun x => if p x = true then x else 0).sum
  | [] => rfl
  | x :: l => by
    cases h : p x <;> simp [h, sum_filter p l]
theorem asInts_map : ∀ l : List Int, asInts (l.map IV.int) = some l
  | [] => rfl
  | x :: l => by simp [asInts, asInts_map l]
def bitsL : List Int := [1, 2, 4, 8, 16, 32, 64, 128, 256, 512, 1024, 2048, 4096, 8192, 16384, 32768]
def bl : Nat → List Int
  | 0 => []
  | k + 1 => 1 :: (bl k).map (2 * ·)
theorem bl_pos : ∀ (k : Nat) (x : Int), x ∈ bl k → 0 < x
  | 0, x, h => by cases h
  | k + 1, x, h => by
    simp only [bl, List.mem_cons, List.mem_map] at h
    rcases h with rfl | ⟨y, hy, rfl⟩
    · decide
    · have := bl_pos k y hy; omega
theorem sum_twice (p : Int → Bool) : ∀ l : List Int, ((l.map (2 * ·)).map fun x => if p x = true then x else 0).sum = 2 * (l.map fun x => if p (2 * x) = true then x else 0).sum
  | [] => rfl
  | x :: l => by
    have ih := sum_twice p l
    simp only [List.map_cons, List.sum_cons] at ih ⊢
    rw [ih, Int.mul_add]
    cases p (2 * x) <;> simp
theorem com_sum_bl : ∀ (k : Nat) (a b : Int), com k a b = ((bl k).filter fun k => decide (a / k % 2 + b / k % 2 = 2)).sum
  | 0, a, b => rfl
  | k + 1, a, b => by
    rw [sum_filter]
    simp only [bl, List.map_cons, List.sum_cons]
    rw [sum_twice, com, com_sum_bl k, sum_filter]
    congr 1
    · have e : (a / 1 % 2 + b / 1 % 2 = 2) ↔ (a % 2 = 1 ∧ b % 2 = 1) := by rw [Int.ediv_one, Int.ediv_one]; omega
      simp only [decide_eq_true_eq, e]
    · congr 1
      refine congrArg List.sum (List.map_congr_left fun x hx => ?_)
      have := bl_pos k x hx
      rw [Int.ediv_ediv_of_nonneg (show (0 : Int) ≤ 2 by decide), Int.ediv_ediv_of_nonneg (show (0 : Int) ≤ 2 by decide)]
theorem com_sum (a b : Int) : com 16 a b = (bitsL.filter fun k => decide (a / k % 2 + b / k % 2 = 2)).sum := com_sum_bl 16 a b
theorem bitsL_pos : ∀ x ∈ bitsL, 0 < x ∧ x < 1073741824 := by decide
theorem map_filter_int (p : Int → Bool) (f : IV → Bool) (h : ∀ i, f (.int i) = p i) : ∀ l : List Int, (l.map IV.int).filter f = (l.filter p).map IV.int
  | [] => rfl
  | x :: l => by
    simp only [List.map_cons, List.filter_cons, h]
    cases p x <;> simp [map_filter_int p f h l]
@[simp] theorem strOk_and : PyData.strOk "and" = true := by decide +kernel
@[simp] theorem strOk_set : PyData.strOk "set" = true := by decide +kernel
def intOf : IV → Int
  | .int i => i
  | _ => 0
theorem stays_ref {st : Store} {r : Nat} {xs : List IV} (h : st[r]? = some (.lst xs)) : (Sq.mk xs (some r)).stays st = true := by simp [Sq.stays, h, IV.eqbs_rfl]
end MP.Lw

set_option linter.all false
set_option autoImplicit false
set_option Elab.async false
set_option maxRecDepth 100000
set_option maxHeartbeats 4000000
namespace MP.Lw
open PySem
/-! ### the plain machine, as data -/
def ivs (xs : List Int) : IV := .tup (xs.map .int)
def nth (xs : List Int) (a : Int) : Int := xs.getD a.toNat 0
def put (xs : List Int) (a v : Int) : List Int := xs.set a.toNat v
@[simp] theorem put_len {xs : List Int} {a v : Int} : (put xs a v).length = xs.length := by unfold put; simp
theorem nth_mem {xs : List Int} {a : Int} (h : 0 ≤ a) (h2 : a < xs.length) : nth xs a ∈ xs := by
  have : a.toNat < xs.length := by omega
  unfold nth
  rw [List.getD_eq_getElem?_getD, List.getElem?_eq_getElem this]
  exact List.getElem_mem this
theorem put_mem {xs : List Int} {a v x : Int} (h : x ∈ put xs a v) : x ∈ xs ∨ x = v := List.mem_or_eq_of_mem_set h
structure PS where
  regs : List Int
  cells : List Int
  outs : List Int
def PS.iv (s : PS) : IV := .tup [ivs s.regs, ivs s.cells, ivs s.outs]
structure PS.ok (s : PS) : Prop where
  rl : s.regs.length = 8
  cl : s.cells.length = 16
  rw_ : ∀ x ∈ s.regs, isWord x
  cw : ∀ x ∈ s.cells, isWord x
  ow : ∀ x ∈ s.outs, isWord x
def SW.f : SW → Int → Int → Int
  | .add, a, b => (a + b) % 65536
  | .sub, a, b => (a - b) % 65536
  | .and, a, b => com 16 a b
  | .less, a, b => if a < b then 1 else 0
/-- what an instruction does: the state behind it, and the next one -/
def Ins.step : Ins → PS → Int → PS × Int
  | .idle, s, t => (s, t + 1)
  | .set d n, s, t => ({ s with regs := put s.regs d n }, t + 1)
  | .op w d a b, s, t => ({ s with regs := put s.regs d (w.f (nth s.regs a) (nth s.regs b)) }, t + 1)
  | .mul d a b, s, t => ({ s with regs := put s.regs d ((nth s.regs a * nth s.regs b) % 65536) }, t + 1)
  | .load d a n, s, t => ({ s with regs := put s.regs d (nth s.cells ((nth s.regs a + n) % 16)) }, t + 1)
  | .store b a n, s, t => ({ s with cells := put s.cells ((nth s.regs a + n) % 16) (nth s.regs b) }, t + 1)
  | .zero a n, s, t => (s, if nth s.regs a = 0 then n else t + 1)
  | .go n, s, t => (s, n)
  | .out a, s, t => ({ s with outs := s.outs ++ [nth s.regs a] }, t + 1)
theorem com_word : ∀ (k : Nat) (a b : Int), 0 ≤ com k a b ∧ com k a b < 2 ^ k
  | 0, a, b => by simp [com]
  | k + 1, a, b => by
    have := com_word k (a / 2) (b / 2)
    simp only [com, Int.pow_succ]
    split <;> omega
theorem emod_word (a : Int) : isWord (a % 65536) := ⟨Int.emod_nonneg _ (by decide), Int.emod_lt_of_pos _ (by decide)⟩
theorem SW.f_word (w : SW) (a b : Int) : isWord (w.f a b) := by
  cases w
  · exact emod_word _
  · exact emod_word _
  · have := com_word 16 a b
    exact ⟨this.1, this.2⟩
  · simp only [SW.f]
    split <;> exact ⟨by decide, by decide⟩
theorem PS.ok.reg {s : PS} (h : s.ok) {a : Int} (ha : isReg a) : isWord (nth s.regs a) := h.rw_ _ (nth_mem ha.1 (by rw [h.rl]; exact ha.2))
theorem PS.ok.cell {s : PS} (h : s.ok) (a : Int) : isWord (nth s.cells (a % 16)) := h.cw _ (nth_mem (Int.emod_nonneg _ (by decide)) (by rw [h.cl]; exact Int.emod_lt_of_pos _ (by decide)))
theorem PS.ok.regs {s : PS} (h : s.ok) {d v : Int} (hv : isWord v) : PS.ok { s with regs := put s.regs d v } := ⟨by simp [h.rl], h.cl, fun x hx => (put_mem hx).elim (h.rw_ x) fun e => e ▸ hv, h.cw, h.ow⟩
theorem PS.ok.cells {s : PS} (h : s.ok) {d v : Int} (hv : isWord v) : PS.ok { s with cells := put s.cells d v } := ⟨h.rl, by simp [h.cl], h.rw_, fun x hx => (put_mem hx).elim (h.cw x) fun e => e ▸ hv, h.ow⟩
theorem step_ok {m : Int} {i : Ins} {s : PS} {t : Int} (hi : i.ok m) (h : s.ok) : (i.step s t).1.ok := by
  cases i with
  | idle => exact h
  | set d n => exact h.regs hi.2
  | op w d a b => exact h.regs (w.f_word _ _)
  | mul d a b => exact h.regs (emod_word _)
  | load d a n => exact h.regs (h.cell _)
  | store b a n => exact h.cells (h.reg hi.1)
  | zero a n => exact h
  | go n => exact h
  | out a => exact ⟨h.rl, h.cl, h.rw_, h.cw, fun x hx => (List.mem_append.mp hx).elim (h.ow x) fun e => by rw [List.mem_singleton.mp e]; exact h.reg hi⟩
theorem step_at {m : Int} {i : Ins} {s : PS} {t : Int} (hi : i.ok m) (h0 : 0 ≤ t) (h1 : t < m) : 0 ≤ (i.step s t).2 ∧ (i.step s t).2 ≤ m := by
  cases i with
  | zero a n =>
    simp only [Ins.step]
    have := hi.2
    unfold upTo at this
    split <;> omega
  | go n => exact hi
  | _ => simp only [Ins.step]; omega
theorem step_outs {i : Ins} {s : PS} {t : Int} : (i.step s t).1.outs.length ≤ s.outs.length + 1 := by cases i <;> simp [Ins.step]
/-! ### its values in the evaluator -/
section
variable {xs ys : List Int} {a v : Int} {st : Store} {k : Nat}
theorem lows_ivs : ∀ xs : List Int, IV.lows k (xs.map .int) = true
  | [] => rfl
  | x :: xs => by simp only [List.map_cons, IV.lows, low_int, lows_ivs xs, Bool.and_self]
theorem plains_ivs : ∀ xs : List Int, IV.plains (xs.map .int) = true
  | [] => rfl
  | x :: xs => by simp [plains_ivs xs]
theorem deps_ivs : ∀ xs : List Int, IV.deps (xs.map .int) = 0
  | [] => rfl
  | x :: xs => by simp [deps_ivs xs]
theorem fits_ivs : ∀ xs : List Int, IV.fits (xs.map .int) = true
  | [] => rfl
  | x :: xs => by simp [IV.fits, IV.fit, fits_ivs xs]
@[simp] theorem low_ivs : (ivs xs).low k = true := lows_ivs xs
@[simp] theorem PS.low (s : PS) : s.iv.low k = true := by simp [PS.iv, IV.low, IV.lows]
theorem idx_ivs (h : 0 ≤ a) (h2 : a < xs.length) : idxM (.v (ivs xs)) (.v (.int a)) st = .ok (.v (.int (nth xs a))) st := by
  have l : a.toNat < xs.length := by omega
  simp [ivs, h, h2, nth, l]
theorem len_ivs : lenOf st (.v (ivs xs)) = some xs.length := by simp [ivs]
theorem changed_ok {fu n : Nat} (h : 0 ≤ a) (h2 : a < xs.length) (hl : xs.length ≤ 100000) : callWith (callM fu (n + 1)) D_changed [.v (ivs xs), .v (.int a), .v (.int v)] st = .ok (.v (ivs (put xs a v))) st := by
  refine call_v (xs := [ivs xs, .int a, .int v]) ?_ low_ivs
  rw [call_go rfl]
  obtain ⟨b, rfl⟩ := Int.eq_ofNat_of_zero_le h
  have hb : b < xs.length := by omega
  have e1 : HT.sIx xs.length xs.length (some (b : Int)) = b := by unfold HT.sIx; simp only; rw [if_neg (by omega)]; simp; omega
  have e2 : HT.sIx xs.length 0 (some ((b : Int) + 1)) = b + 1 := by unfold HT.sIx; simp only; rw [if_neg (by omega)]; omega
  have e3 : HT.sIx xs.length 0 none = 0 := rfl
  have e4 : HT.sIx xs.length xs.length none = xs.length := rfl
  have e5 : cut (xs.map IV.int) none (some (b : Int)) = (xs.map IV.int).take b := by unfold cut sIxN; simp [e1, e3]
  have e6 : cut (xs.map IV.int) (some ((b : Int) + 1)) none = (xs.map IV.int).drop (b + 1) := by
    unfold cut sIxN
    simp only [List.length_map, e2, e4]
    rw [List.take_of_length_le (by simp)]
  have e7 : put xs b v = xs.take b ++ v :: xs.drop (b + 1) := by unfold put; simp [List.set_eq_take_append_cons_drop, hb]
  have e8 : ivs (put xs b v) = .tup ((xs.map IV.int).take b ++ ([.int v] ++ (xs.map IV.int).drop (b + 1))) := by
    rw [ivs, e7]
    simp [List.map_take, List.map_drop]
  rw [e8]
  have n1 : isNob (.bin .add (.v 1) (.c (.int 1))) = false := rfl
  have m1 : min b xs.length ≤ 16777215 := by omega
  have m2 : min b xs.length + 1 + (xs.length - (b + 1)) ≤ 16777216 := by omega
  simp [B_changed, startE, ivs, e_slH nob_v, e_slL n1, e5, e6, m1, m2]
end
end MP.Lw

set_option linter.all false
set_option autoImplicit false
set_option Elab.async false
set_option maxRecDepth 100000
set_option maxHeartbeats 4000000
namespace MP.Lw
open PySem
/-! ### the program's steps -/
def progV (p : List Ins) : IV := .tup (p.map Ins.iv)
theorem lows_ins (k : Nat) : ∀ p : List Ins, IV.lows k (p.map Ins.iv) = true
  | [] => rfl
  | i :: p => by simp only [List.map_cons, IV.lows, i.low, lows_ins k p, Bool.and_self]
@[simp] theorem progV_low {k : Nat} {p : List Ins} : (progV p).low k = true := lows_ins k p
@[simp] theorem at_end {st : Store} {o : IO} : (st ++ [o])[st.length]? = some o := by simp
section
variable {n : Nat} {i : Ins} {s : PS} {t : Int} {st : Store} {m : Int} {p : List Ins}
@[simp] theorem mul_small {a b : Int} (h : isWord a) : (small a || small b) = true := by rw [small_of h.1 h.2]; rfl
theorem goal_of_go {g : Int} : callWith (callM FUEL (n + 1)) D_goal_of [.v (Ins.go g).iv] st = .ok (.v (.int g)) st := by
  refine call_v (xs := [(Ins.go g).iv]) ?_ rfl
  rw [call_go rfl]
  simp [B_goal_of, startE, Ins.iv]
theorem goal_of_zero {a g : Int} : callWith (callM FUEL (n + 1)) D_goal_of [.v (Ins.zero a g).iv] st = .ok (.v (.int g)) st := by
  refine call_v (xs := [(Ins.zero a g).iv]) ?_ rfl
  rw [call_go rfl]
  simp [B_goal_of, startE, Ins.iv]
theorem cell_of_load {d a g b : Int} : callWith (callM FUEL (n + 1)) D_cell_of [.v (Ins.load d a g).iv, .v (.int b)] st = .ok (.v (.int ((b + g) % 16))) st := by
  refine call_v (xs := [(Ins.load d a g).iv, .int b]) ?_ rfl
  rw [call_go rfl]
  simp [B_cell_of, startE, Ins.iv]
theorem cell_of_store {d a g b : Int} : callWith (callM FUEL (n + 1)) D_cell_of [.v (Ins.store d a g).iv, .v (.int b)] st = .ok (.v (.int ((b + g) % 16))) st := by
  refine call_v (xs := [(Ins.store d a g).iv, .int b]) ?_ rfl
  rw [call_go rfl]
  simp [B_cell_of, startE, Ins.iv]
theorem result_set {d g : Int} {r : Nat} (h : r < st.length) : callWith (callM FUEL (n + 1)) D_result_of [.v (Ins.set d g).iv, .v (.ref r)] st = .ok (.v (.int g)) st := by
  refine call_v (xs := [(Ins.set d g).iv, .ref r]) ?_ rfl
  rw [call_go rfl]
  simp [B_result_of, startE, Ins.iv]
theorem result_op {w : SW} {d a b x y : Int} {r : Nat} (h : st[r]? = some (.lst [.int x, .int y])) (hx : isWord x) (hy : isWord y) : callWith (callM FUEL (n + 2)) D_result_of [.v (Ins.op w d a b).iv, .v (.ref r)] st = .ok (.v (.int (w.f x y))) st := by
  refine call_v (xs := [(Ins.op w d a b).iv, .ref r]) ?_ rfl
  rw [call_go rfl]
  cases w <;> simp [B_result_of, startE, Ins.iv, SW.s, idx_E, h, sum_of_ok, rest_of_ok, common_of_ok hx hy, lesser_of_ok, SW.f]
theorem result_mul {d a b x y : Int} {r : Nat} (h : st[r]? = some (.lst [.int x, .int y])) (hx : isWord x) : callWith (callM FUEL (n + 2)) D_result_of [.v (Ins.mul d a b).iv, .v (.ref r)] st = .ok (.v (.int ((x * y) % 65536))) st := by
  refine call_v (xs := [(Ins.mul d a b).iv, .ref r]) ?_ rfl
  rw [call_go rfl]
  simp [B_result_of, startE, Ins.iv, idx_E, h, product_of_ok (small_of hx.1 hx.2)]
theorem step_in_ok (hi : i.ok m) (hs : s.ok) (ho : s.outs.length ≤ 100000) (h0 : 0 ≤ t) (hp : p[t.toNat]? = some i) : callWith (callM FUEL (n + 3)) D_step_in [.v (progV p), .v s.iv, .v (.int t)] st = .ok (.v (.tup [(i.step s t).1.iv, .int (i.step s t).2])) st := by
  obtain ⟨lt, -⟩ := List.getElem?_eq_some_iff.mp hp
  have ha : atN p.length t = some t.toNat := atN_pos h0 (by omega)
  have reg : ∀ a, isReg a → ∀ st', idxM (.v (ivs s.regs)) (.v (.int a)) st' = .ok (.v (.int (nth s.regs a))) st' := fun a ha st' => idx_ivs ha.1 (by rw [hs.rl]; exact ha.2)
  have cel : ∀ a st', idxM (.v (ivs s.cells)) (.v (.int (a % 16))) st' = .ok (.v (.int (nth s.cells (a % 16)))) st' := fun a st' => idx_ivs (Int.emod_nonneg _ (by decide)) (by rw [hs.cl]; exact Int.emod_lt_of_pos _ (by decide))
  have chr : ∀ a v k st', isReg a → callWith (callM FUEL (k + 1)) D_changed [.v (ivs s.regs), .v (.int a), .v (.int v)] st' = .ok (.v (ivs (put s.regs a v))) st' := fun a v k st' ha => changed_ok ha.1 (by rw [hs.rl]; exact ha.2) (by rw [hs.rl]; decide)
  have chc : ∀ a v k st', callWith (callM FUEL (k + 1)) D_changed [.v (ivs s.cells), .v (.int (a % 16)), .v (.int v)] st' = .ok (.v (ivs (put s.cells (a % 16) v))) st' := fun a v k st' => changed_ok (Int.emod_nonneg _ (by decide)) (by rw [hs.cl]; exact Int.emod_lt_of_pos _ (by decide)) (by rw [hs.cl]; decide)
  have fin : ∀ (ws : List IV), exitF (evSs (callM FUEL (n + 2)) D_step_in FUEL B_step_in (startE D_step_in [progV p, s.iv, .int t]) st) = .ok (.v (.tup [(i.step s t).1.iv, .int (i.step s t).2])) (st ++ [.lst ws]) → callWith (callM FUEL (n + 3)) D_step_in [.v (progV p), .v s.iv, .v (.int t)] st = .ok (.v (.tup [(i.step s t).1.iv, .int (i.step s t).2])) st := fun ws h =>
    call_same (t := []) (t' := [.lst ws]) (xs := [progV p, s.iv, .int t]) (by simp) (by rw [call_go rfl, List.append_nil]; exact h) (by simp [IV.low, IV.lows])
  have pv : ∀ st', idxM (.v (progV p)) (.v (.int t)) st' = .ok (.v i.iv) st' := fun st' => by simp [progV, ha, hp]
  cases i with
  | idle => exact fin [] (by simp [B_step_in, startE, pv, PS.iv, kind_in_ok, Ins.kind, uses_of_ok, Ins.uses, compF, Ins.step, wipeN])
  | set d g =>
    have hd : ∀ st', idxM (.v (Ins.set d g).iv) (.v (.int 1)) st' = .ok (.v (.int d)) st' := fun st' => by simp [Ins.iv]
    exact fin [] (by simp [B_step_in, startE, pv, PS.iv, kind_in_ok, Ins.kind, uses_of_ok, Ins.uses, useA, useB, compF, Ins.step, wipeN, hd, result_set, chr d g _ _ hi.1])
  | op w d a b =>
    have hd : idxM (.v (Ins.op w d a b).iv) (.v (.int 1)) (st ++ [IO.lst [.int (nth s.regs a), .int (nth s.regs b)]]) = .ok (.v (.int d)) (st ++ [IO.lst [.int (nth s.regs a), .int (nth s.regs b)]]) := by simp [Ins.iv]
    exact fin [.int (nth s.regs a), .int (nth s.regs b)] (by simp [B_step_in, startE, pv, PS.iv, kind_in_ok, Ins.kind, uses_of_ok, Ins.uses, useA, useB, compF, Ins.step, wipeN, reg a hi.2.1, reg b hi.2.2, hd, result_op at_end (hs.reg hi.2.1) (hs.reg hi.2.2), chr d _ _ _ hi.1])
  | mul d a b =>
    have hd : idxM (.v (Ins.mul d a b).iv) (.v (.int 1)) (st ++ [IO.lst [.int (nth s.regs a), .int (nth s.regs b)]]) = .ok (.v (.int d)) (st ++ [IO.lst [.int (nth s.regs a), .int (nth s.regs b)]]) := by simp [Ins.iv]
    exact fin [.int (nth s.regs a), .int (nth s.regs b)] (by simp [B_step_in, startE, pv, PS.iv, kind_in_ok, Ins.kind, uses_of_ok, Ins.uses, useA, useB, compF, Ins.step, wipeN, reg a hi.2.1, reg b hi.2.2, hd, result_mul at_end (hs.reg hi.2.1), chr d _ _ _ hi.1])
  | load d a g =>
    have hd : ∀ st', idxM (.v (Ins.load d a g).iv) (.v (.int 1)) st' = .ok (.v (.int d)) st' := fun st' => by simp [Ins.iv]
    exact fin [.int (nth s.regs a)] (by simp [B_step_in, startE, pv, PS.iv, kind_in_ok, Ins.kind, uses_of_ok, Ins.uses, useA, useB, compF, Ins.step, wipeN, reg a hi.2.1, hd, cell_of_load, idx_E, cel, chr d _ _ _ hi.1])
  | store b a g => exact fin [.int (nth s.regs a), .int (nth s.regs b)] (by simp [B_step_in, startE, pv, PS.iv, kind_in_ok, Ins.kind, uses_of_ok, Ins.uses, useA, useB, compF, Ins.step, wipeN, reg a hi.2.1, reg b hi.1, cell_of_store, idx_E, chc])
  | zero a g =>
    by_cases hz : nth s.regs a = 0
    · exact fin [.int (nth s.regs a)] (by simp [B_step_in, startE, pv, PS.iv, kind_in_ok, Ins.kind, uses_of_ok, Ins.uses, useA, useB, compF, Ins.step, wipeN, reg a hi.1, idx_E, hz, goal_of_zero])
    · exact fin [.int (nth s.regs a)] (by simp [B_step_in, startE, pv, PS.iv, kind_in_ok, Ins.kind, uses_of_ok, Ins.uses, useA, useB, compF, Ins.step, wipeN, reg a hi.1, idx_E, hz])
  | go g => exact fin [] (by simp [B_step_in, startE, pv, PS.iv, kind_in_ok, Ins.kind, uses_of_ok, Ins.uses, useA, useB, compF, Ins.step, wipeN, goal_of_go])
  | out a =>
    have hl : ∀ st', binM .add (.v (ivs s.outs)) (.v (.tup [.int (nth s.regs a)])) st' = .ok (.v (ivs (s.outs ++ [nth s.regs a]))) st' := fun st' => by
      simp [ivs]
      omega
    exact fin [.int (nth s.regs a)] (by simp [B_step_in, startE, pv, PS.iv, kind_in_ok, Ins.kind, uses_of_ok, Ins.uses, useA, useB, compF, Ins.step, wipeN, reg a hi, idx_E, hl])
end
end MP.Lw

set_option linter.all false
set_option autoImplicit false
set_option Elab.async false
set_option maxRecDepth 100000
set_option maxHeartbeats 4000000
namespace MP.Lw
open PySem
/-! ### runs -/
def runN (p : List Ins) : Nat → PS → Int → Int → PS × Int × Int
  | 0, s, t, c => (s, t, c)
  | k + 1, s, t, c => match p[t.toNat]? with
    | some i => runN p k (i.step s t).1 (i.step s t).2 (c + 1)
    | none => (s, t, c)
theorem runN_end {p : List Ins} {k : Nat} {s : PS} {t c : Int} (h : (p.length : Int) ≤ t) : runN p k s t c = (s, t, c) := by
  cases k with
  | zero => rfl
  | succ k => simp only [runN]; rw [List.getElem?_eq_none (by omega)]
theorem runN_ok {p : List Ins} (hp : ∀ i ∈ p, i.ok p.length) : ∀ {k : Nat} {s : PS} {t c : Int}, s.ok → 0 ≤ t → t ≤ p.length → (runN p k s t c).1.ok ∧ 0 ≤ (runN p k s t c).2.1 ∧ (runN p k s t c).2.1 ≤ p.length
  | 0, s, t, c, h, h0, h1 => ⟨h, h0, h1⟩
  | k + 1, s, t, c, h, h0, h1 => by
    simp only [runN]
    split
    · rename_i i hi
      have m := List.mem_of_getElem? hi
      have lt := (List.getElem?_eq_some_iff.mp hi).1
      have z := step_at (s := s) (t := t) (hp i m) h0 (by omega)
      exact runN_ok hp (step_ok (hp i m) h) z.1 z.2
    · exact ⟨h, h0, h1⟩
def runE (p : List Ins) (s : PS) (most t c : Int) : Env := { sl := [some (progV p), some s.iv, some (.int most), some (.int t), some (.int c)] }
section
variable {n : Nat} {st : Store} {p : List Ins} {s : PS} {most : Nat}
theorem run_in_ok (hp : ∀ i ∈ p, i.ok p.length) (hs : s.ok) (ho : s.outs.length ≤ 1000) (hm : most ≤ 1000) : callWith (callM FUEL (n + 4)) D_run_in [.v (progV p), .v s.iv, .v (.int most)] st = .ok (.v (.tup [(runN p most s 0 0).1.iv, .int (runN p most s 0 0).2.1, .int (runN p most s 0 0).2.2])) st := by
  refine call_v (xs := [progV p, s.iv, .int most]) ?_ (by simp [IV.low, IV.lows])
  rw [call_go rfl]
  have lp : ∀ st', lenOf st' (.v (progV p)) = some p.length := fun st' => by simp [progV]
  simp [B_run_in, startE]
  refine whl_bw (fun k env st' => st' = st ∧ ∃ s1 t c, env = runE p s1 most t c ∧ s1.ok ∧ 0 ≤ t ∧ t ≤ p.length ∧ c + k = most ∧ s1.outs.length + k ≤ 1000 + most ∧ runN p k s1 t c = runN p most s 0 0)
    (fun env st' => st' = st ∧ env = runE p (runN p most s 0 0).1 most (runN p most s 0 0).2.1 (runN p most s 0 0).2.2) (k := most) (by show most < 10000; omega) ⟨rfl, s, 0, 0, rfl, hs, by omega, by omega, by omega, by omega, rfl⟩ ?_ ?_
  · rintro k env _ ⟨rfl, s1, t, c, rfl, h1, h2, h3, h4, h5, h6⟩
    by_cases q : t < p.length ∧ c < most
    · right
      cases k with
      | zero => omega
      | succ k =>
        obtain ⟨i, hi⟩ : ∃ i, p[t.toNat]? = some i := ⟨_, List.getElem?_eq_getElem (by omega)⟩
        have ok := hp i (List.mem_of_getElem? hi)
        have z := step_at (s := s1) (t := t) ok h2 q.1
        have so := step_outs (i := i) (s := s1) (t := t)
        refine ⟨by simp [whlT_s, runE, lp, q.1, q.2], k, runE p (i.step s1 t).1 most (i.step s1 t).2 (c + 1), _, rfl, ?_, rfl, _, _, _, rfl, step_ok ok h1, z.1, z.2, by omega, by omega, ?_⟩
        · have e := fun st' => step_in_ok (n := n) (st := st') ok h1 (by omega) h2 hi
          simp [runE, e]
        · rw [← h6]
          simp only [runN, hi]
    · left
      have e : runN p k s1 t c = (s1, t, c) := by
        by_cases q1 : t < p.length
        · have : k = 0 := by omega
          subst this
          rfl
        · exact runN_end (by omega)
      refine ⟨by by_cases h : t < p.length <;> simp [whlT_s, runE, lp, h]; omega, rfl, ?_⟩
      rw [← h6, e]
  · rintro env _ ⟨rfl, rfl⟩
    simp [runE]
theorem asBools_map {α : Type} (f : α → Bool) : ∀ l : List α, asBools (l.map fun x => IV.bl (f x)) = some (l.map f)
  | [] => rfl
  | x :: l => by simp [asBools, asBools_map f l]
theorem are_words_is {xs : List IV} {lo hi : Int} (ht : ∀ x ∈ xs, tyOf st x) (hl : IV.lows st.length xs = true) (hx : xs.length ≤ 10000) : callWith (callM FUEL (n + 4)) D_are_words [.v (.tup xs), .v (.int lo), .v (.int hi)] st = .ok (.v (.bl ((decide (lo ≤ xs.length) && decide ((xs.length : Int) ≤ hi)) && xs.all (between 0 65535)))) st := by
  refine call_v (xs := [.tup xs, .int lo, .int hi]) ?_ rfl
  rw [call_go rfl]
  have e : compF ⟨xs, none⟩ { sl := [some (IV.tup xs), some (IV.int lo), some (IV.int hi), none], hx := none, lm := [] } (compT (callM FUEL (n + 3)) D_are_words (.v 3)) (evIfs (callM FUEL (n + 3)) D_are_words []) (evE (callM FUEL (n + 3)) D_are_words (.call D_is_word [.v 3])) xs [] st = .ok (.l (xs.map fun x => .bl (between 0 65535 x))) st := by
    rw [comp_pure (fun _ => true) (fun x => .bl (between 0 65535 x)) rfl]
    · rw [List.filter_eq_self.mpr (by simp)]; rfl
    · intro x hx
      simp [is_word_ok (ht x hx)]
    · simp; omega
  by_cases h1 : lo ≤ xs.length <;> by_cases h2 : (xs.length : Int) ≤ hi <;> simp [B_are_words, startE, is_list_ok, h1, h2, wipeN, e, asBools_map]
theorem word_all {xs : List Int} (h : ∀ x ∈ xs, isWord x) : (xs.map IV.int).all (between 0 65535) = true := by
  rw [List.all_map, List.all_eq_true]
  exact fun x hx => (h x hx).b
theorem are_words_ok {xs : List Int} {lo hi : Int} (h : ∀ x ∈ xs, isWord x) (h1 : lo ≤ xs.length) (h2 : (xs.length : Int) ≤ hi) (h3 : xs.length ≤ 10000) : callWith (callM FUEL (n + 4)) D_are_words [.v (ivs xs), .v (.int lo), .v (.int hi)] st = .ok (.v (.bl true)) st := by
  rw [ivs, are_words_is (fun x hx => by obtain ⟨y, -, rfl⟩ := List.mem_map.mp hx; exact ty_int) (lows_ivs _) (by simpa using h3), word_all h]
  simp [h1, h2]
theorem need_state_ok (hs : s.ok) (ho : s.outs.length ≤ 1000) : callWith (callM FUEL (n + 5)) D_need_state [.v s.iv] st = .ok (.v .non) st := by
  refine call_v (xs := [s.iv]) ?_ rfl
  rw [call_go rfl]
  have e1 : ∀ st', callWith (callM FUEL (n + 4)) D_are_words [.v (ivs s.regs), .v (.int 8), .v (.int 8)] st' = .ok (.v (.bl true)) st' := fun st' => are_words_ok hs.rw_ (by rw [hs.rl]; decide) (by rw [hs.rl]; decide) (by rw [hs.rl]; decide)
  have e2 : ∀ st', callWith (callM FUEL (n + 4)) D_are_words [.v (ivs s.cells), .v (.int 16), .v (.int 16)] st' = .ok (.v (.bl true)) st' := fun st' => are_words_ok hs.cw (by rw [hs.cl]; decide) (by rw [hs.cl]; decide) (by rw [hs.cl]; decide)
  have e3 : ∀ st', callWith (callM FUEL (n + 4)) D_are_words [.v (ivs s.outs), .v (.int 0), .v (.int 1000)] st' = .ok (.v (.bl true)) st' := fun st' => are_words_ok hs.ow (by omega) (by omega) (by omega)
  simp [B_need_state, startE, PS.iv, is_list_ok, e1, e2, e3]
/-- a good program -/
structure PrOk (p : List Ins) : Prop where
  len : p.length ≤ 60
  ok : ∀ i ∈ p, i.ok p.length
theorem need_program_ok (hp : PrOk p) : callWith (callM FUEL (n + 5)) D_need_program [.v (progV p)] st = .ok (.v .non) st := by
  refine call_v (xs := [progV p]) ?_ rfl
  rw [call_go rfl]
  have lp : ∀ st', lenOf st' (.v (progV p)) = some p.length := fun st' => by simp [progV]
  have len := hp.len
  have e1 : ∀ st', callWith (callM FUEL (n + 4)) D_is_list [.v (progV p), .v (.int 0), .v (.int 60)] st' = .ok (.v (.bl true)) st' := fun st' => by
    rw [progV, is_list_ok]
    simp
    omega
  simp [B_need_program, startE, e1, lp, inB_nat (show p.length ≤ lineN by rw [lineN_eq]; omega)]
  refine for_bw (fun xs env st' => st' = st ∧ (∃ x, env = { sl := [some (progV p), x] }) ∧ ∀ x ∈ xs, ∃ j : Nat, x = .int j ∧ j < p.length) ⟨rfl, ⟨_, rfl⟩, fun x hx => ?_⟩ (fun _ _ _ _ => rfl) ?_ ?_
  · obtain ⟨j, hj, rfl⟩ := List.mem_map.mp hx
    exact ⟨j, by simp, List.mem_range.mp hj⟩
  · rintro x xs _ _ ⟨rfl, ⟨y, rfl⟩, hx⟩
    obtain ⟨j, rfl, hj⟩ := hx x List.mem_cons_self
    have e2 : ∀ st', callWith (callM FUEL (n + 4)) D_is_instruction_up_to [.v (p[j]).iv, .v (.int p.length)] st' = .ok (.v (.bl true)) st' := fun st' => is_up_to_ok (hp.ok _ (List.getElem_mem hj))
    have pv : ∀ st', idxM (.v (progV p)) (.v (.int j)) st' = .ok (.v (p[j]).iv) st' := fun st' => by simp [progV, hj]
    refine ⟨{ sl := [some (progV p), some (.int j)] }, { sl := [some (progV p), some (.int j)] }, _, by simp [forT_s], .inl (by simp [pv, lp, e2]), rfl, ⟨_, rfl⟩, fun x hx' => hx x (List.mem_cons_of_mem _ hx')⟩
  · rintro env _ ⟨rfl, ⟨y, rfl⟩, -⟩
    simp
theorem stepped_ok (hp : PrOk p) (hs : s.ok) (ho : s.outs.length ≤ 1000) {t : Int} {i : Ins} (h0 : 0 ≤ t) (hi : p[t.toNat]? = some i) : callWith (callM FUEL (n + 6)) D_stepped [.v (progV p), .v s.iv, .v (.int t)] st = .ok (.v (.tup [(i.step s t).1.iv, .int (i.step s t).2])) st := by
  refine call_v (xs := [progV p, s.iv, .int t]) ?_ (by simp [IV.low, IV.lows])
  rw [call_go rfl]
  have lt := (List.getElem?_eq_some_iff.mp hi).1
  have lp : ∀ st', lenOf st' (.v (progV p)) = some p.length := fun st' => by simp [progV]
  have e1 : ∀ st', callWith (callM FUEL (n + 5)) D_is_in [.v (.int t), .v (.int 0), .v (.int (p.length - 1))] st' = .ok (.v (.bl true)) st' := fun st' => upTo_ok ⟨h0, by omega⟩
  have e2 := fun st' => step_in_ok (n := n + 2) (st := st') (hp.ok i (List.mem_of_getElem? hi)) hs (by omega) h0 hi
  simp [B_stepped, startE, need_program_ok hp, need_state_ok hs ho, lp, e1, e2]
theorem ran_ok (hp : PrOk p) (hs : s.ok) (ho : s.outs.length ≤ 1000) (hm : most ≤ 1000) : callWith (callM FUEL (n + 6)) D_ran [.v (progV p), .v s.iv, .v (.int most)] st = .ok (.v (.tup [(runN p most s 0 0).1.iv, .int (runN p most s 0 0).2.1, .int (runN p most s 0 0).2.2])) st := by
  refine call_v (xs := [progV p, s.iv, .int most]) ?_ (by simp [IV.low, IV.lows])
  rw [call_go rfl]
  have e1 : ∀ st', callWith (callM FUEL (n + 5)) D_is_in [.v (.int most), .v (.int 0), .v (.int 1000)] st' = .ok (.v (.bl true)) st' := fun st' => upTo_ok ⟨by omega, by omega⟩
  have e2 := fun st' => run_in_ok (n := n + 1) (st := st') hp.ok hs ho hm
  simp [B_ran, startE, need_program_ok hp, need_state_ok hs ho, e1, e2]
theorem ended_ok (hp : PrOk p) (hs : s.ok) (ho : s.outs.length ≤ 1000) (h : (p.length : Int) ≤ (runN p 1000 s 0 0).2.1) : callWith (callM FUEL (n + 6)) D_ended [.v (progV p), .v s.iv] st = .ok (.v (.tup [(runN p 1000 s 0 0).1.iv, .int (runN p 1000 s 0 0).2.2])) st := by
  refine call_v (xs := [progV p, s.iv]) ?_ (by simp [IV.low, IV.lows])
  rw [call_go rfl]
  have lp : ∀ st', lenOf st' (.v (progV p)) = some p.length := fun st' => by simp [progV]
  have e2 := fun st' => run_in_ok (n := n + 1) (st := st') (most := 1000) hp.ok hs ho (by decide)
  have e2 : ∀ st', callWith (callM FUEL (n + 5)) D_run_in [.v (progV p), .v s.iv, .v (.int 1000)] st' = .ok (.v (.tup [(runN p 1000 s 0 0).1.iv, .int (runN p 1000 s 0 0).2.1, .int (runN p 1000 s 0 0).2.2])) st' := e2
  have q : ¬ (runN p 1000 s 0 0).2.1 < p.length := by omega
  simp [B_ended, startE, need_program_ok hp, need_state_ok hs ho, e2, lp, q]
theorem ended_no (hp : PrOk p) (hs : s.ok) (ho : s.outs.length ≤ 1000) (h : (runN p 1000 s 0 0).2.1 < p.length) : callWith (callM FUEL (n + 6)) D_ended [.v (progV p), .v s.iv] st = .exc ⟨23, some (.int 1000)⟩ st := by
  refine call_exc (t := []) (t' := []) (xs := [progV p, s.iv]) (by simp) ?_ rfl
  rw [call_go rfl, List.append_nil]
  have lp : ∀ st', lenOf st' (.v (progV p)) = some p.length := fun st' => by simp [progV]
  have e2 : ∀ st', callWith (callM FUEL (n + 5)) D_run_in [.v (progV p), .v s.iv, .v (.int 1000)] st' = .ok (.v (.tup [(runN p 1000 s 0 0).1.iv, .int (runN p 1000 s 0 0).2.1, .int (runN p 1000 s 0 0).2.2])) st' := fun st' => run_in_ok (n := n + 1) (st := st') (most := 1000) hp.ok hs ho (by decide)
  simp [B_ended, startE, need_program_ok hp, need_state_ok hs ho, e2, lp, h]
end
end MP.Lw

set_option linter.all false
set_option autoImplicit false
set_option Elab.async false
set_option maxRecDepth 100000
set_option maxHeartbeats 4000000
namespace MP.Lw
open PySem
/-! ### the law's own machine -/
@[irreducible] def S3 (base : Store) (R C O : List Int) (t : Store) : Store := base ++ (.lst (R.map .int) :: .lst (C.map .int) :: .lst (O.map .int) :: t)
section
variable {base t : Store} {R C O R' C' O' : List Int} {x : IO}
@[simp] theorem S3_0 : (S3 base R C O t)[base.length]? = some (.lst (R.map .int)) := by unfold S3; simp
@[simp] theorem S3_1 : (S3 base R C O t)[base.length + 1]? = some (.lst (C.map .int)) := by unfold S3; simp
@[simp] theorem S3_2 : (S3 base R C O t)[base.length + 2]? = some (.lst (O.map .int)) := by unfold S3; simp
@[simp] theorem S3_app : S3 base R C O t ++ [x] = S3 base R C O (t ++ [x]) := by unfold S3; simp
@[simp] theorem S3_set0 : (S3 base R C O t).set base.length (.lst (R'.map .int)) = S3 base R' C O t := by unfold S3; simp
@[simp] theorem S3_set1 : (S3 base R C O t).set (base.length + 1) (.lst (C'.map .int)) = S3 base R C' O t := by unfold S3; simp
@[simp] theorem S3_set2 : (S3 base R C O t).set (base.length + 2) (.lst (O'.map .int)) = S3 base R C O' t := by unfold S3; simp
@[simp] theorem S3_w : (S3 base R C O (t ++ [x]))[(S3 base R' C' O' t).length]? = some x := by
  unfold S3
  rw [List.getElem?_append_right (by simp), List.length_append, Nat.add_sub_cancel_left]
  simp
@[simp] theorem S3_out {v : Int} : (S3 base R C O t).set (base.length + 2) (.lst (O.map .int ++ [.int v])) = S3 base R C (O ++ [v]) t := by unfold S3; simp
theorem S3_lt : (S3 base R' C' O' t).length < (S3 base R C O (t ++ [x])).length := by unfold S3; simp
theorem S3_mk : base ++ [.lst (R.map .int), .lst (C.map .int), .lst (O.map .int)] = S3 base R C O [] := by unfold S3; rfl
theorem S3_base : S3 base R C O t = base ++ (.lst (R.map .int) :: .lst (C.map .int) :: .lst (O.map .int) :: t) := by unfold S3; rfl
end
section
variable {xs : List Int} {a v : Int} {st : Store} {r : Nat}
theorem idxI (h : 0 ≤ a) (h2 : a < xs.length) : idxR (some (.lst (xs.map .int))) a st = .ok (.v (.int (nth xs a))) st := by
  have l : a.toNat < xs.length := by omega
  simp [h, h2, nth, l]
theorem setI (h : 0 ≤ a) (h2 : a < xs.length) : setR r a (.int v) st (some (.lst (xs.map .int))) = some (st.set r (.lst ((put xs a v).map .int))) := by
  simp [h, h2, put, List.map_set]
end
theorem appI {st : Store} {r : Nat} {xs : List Int} {v : Int} (h : xs.length ≤ 100000) : appR st r (.v (.int v)) (some (.lst (xs.map .int))) = .ok (.v .non) (st.set r (.lst ((xs ++ [v]).map .int))) := by
  have : xs.length < 16777216 := by omega
  simp [this]
section
variable {n : Nat} {st : Store} {r : Nat}
theorem made2_set {d g : Int} (h : r < st.length) : callWith (callM FUEL (n + 1)) D_law_made_2 [.v (Ins.set d g).iv, .v (.ref r)] st = .ok (.v (.int g)) st := by
  refine call_v (xs := [(Ins.set d g).iv, .ref r]) ?_ rfl
  rw [call_go rfl]
  simp [B_law_made_2, startE, Ins.iv]
theorem unpack2 {x y : IV} (h : st[r]? = some (.lst [x, y])) : unpack st (.v (.ref r)) 2 = some [x, y] := by simp [unpack, items_ref h]
theorem made2_op {w : SW} {d a b x y : Int} (h : st[r]? = some (.lst [.int x, .int y])) (hx : isWord x) (hy : isWord y) : callWith (callM FUEL (n + 1)) D_law_made_2 [.v (Ins.op w d a b).iv, .v (.ref r)] st = .ok (.v (.int (w.f x y))) st := by
  have sm := small_of hx.1 hx.2
  have u := unpack2 h
  cases w with
  | and =>
    refine call_same (t := []) (t' := [.lst (bitsL.map .int)]) (xs := [(Ins.op .and d a b).iv, .ref r]) (by simp) ?_ rfl
    rw [call_go rfl, List.append_nil]
    have e2 : (st ++ [IO.lst (bitsL.map .int)])[st.length]? = some (.lst (bitsL.map .int)) := by simp
    simp only [bitsL, List.map_cons, List.map_nil] at e2
    have e3 := sq_ref e2
    simp [B_law_made_2, startE, Ins.iv, SW.s, u, e3]
    rw [comp_filt (fun z => decide (x / intOf z % 2 + y / intOf z % 2 = 2)) (stays_ref e2)]
    · rw [show [IV.int 1, IV.int 2, IV.int 4, IV.int 8, IV.int 16, IV.int 32, IV.int 64, IV.int 128, IV.int 256, IV.int 512, IV.int 1024, IV.int 2048, IV.int 4096, IV.int 8192, IV.int 16384, IV.int 32768] = bitsL.map IV.int from rfl,
        map_filter_int (fun k => decide (x / k % 2 + y / k % 2 = 2)) _ (fun _ => rfl)]
      simp [asInts_map, com_sum, SW.f]
    · intro z hz
      obtain ⟨k, hk, rfl⟩ := List.mem_map.mp (show z ∈ bitsL.map IV.int from hz)
      obtain ⟨h1, h2⟩ := bitsL_pos k hk
      by_cases c : x / k % 2 + y / k % 2 = 2 <;> simp [wipeN, h1, h2, intOf, c]
    · decide
  | less =>
    refine call_v (xs := [(Ins.op .less d a b).iv, .ref r]) ?_ rfl
    rw [call_go rfl]
    by_cases q : x < y <;> simp [B_law_made_2, startE, Ins.iv, SW.s, u, SW.f, q]
  | add =>
    refine call_same (t := []) (t' := [.dk [(.str "add", .int (x + y)), (.str "sub", .int (x - y)), (.str "mul", .int (x * y))]]) (xs := [(Ins.op .add d a b).iv, .ref r]) (by simp) ?_ rfl
    rw [call_go rfl, List.append_nil]
    simp [B_law_made_2, startE, Ins.iv, SW.s, u, SW.f, sm, kget_E, kPut1, kLook1, IV.eqb]
  | sub =>
    refine call_same (t := []) (t' := [.dk [(.str "add", .int (x + y)), (.str "sub", .int (x - y)), (.str "mul", .int (x * y))]]) (xs := [(Ins.op .sub d a b).iv, .ref r]) (by simp) ?_ rfl
    rw [call_go rfl, List.append_nil]
    simp [B_law_made_2, startE, Ins.iv, SW.s, u, SW.f, sm, kget_E, kPut1, kLook1, IV.eqb]
theorem made2_mul {d a b x y : Int} (h : st[r]? = some (.lst [.int x, .int y])) (hx : isWord x) : callWith (callM FUEL (n + 1)) D_law_made_2 [.v (Ins.mul d a b).iv, .v (.ref r)] st = .ok (.v (.int ((x * y) % 65536))) st := by
  have sm := small_of hx.1 hx.2
  have u := unpack2 h
  refine call_same (t := []) (t' := [.dk [(.str "add", .int (x + y)), (.str "sub", .int (x - y)), (.str "mul", .int (x * y))]]) (xs := [(Ins.mul d a b).iv, .ref r]) (by simp) ?_ rfl
  rw [call_go rfl, List.append_nil]
  simp [B_law_made_2, startE, Ins.iv, u, sm, kget_E, kPut1, kLook1, IV.eqb]
end
/-- the registers that are used, in order -/
def Ins.regs : Ins → List Int
  | .op _ _ a b => [a, b]
  | .mul _ a b => [a, b]
  | .load _ a _ => [a]
  | .store b a _ => [a, b]
  | .zero a _ => [a]
  | .out a => [a]
  | _ => []
/-- the frame of the law's machine -/
def lawE (base : Store) (p : List Ins) (s0 : PS) (most t c : Int) (x8 x9 x10 : Option IV) : Env :=
  { sl := [some (progV p), some s0.iv, some (.int most), some (.ref base.length), some (.ref (base.length + 1)), some (.ref (base.length + 2)), some (.int t), some (.int c), x8, x9, x10, none, none] }
/-- a turn of it -/
def lawB : List S := [.asg (.v 8) (.idx (.v 0) (.v 6)), .asg (.tup [.v 9, .v 10]) (.tup [.call D_law_kind [.v 8], .comp [11, 12] (.tup [.v 11, .v 12]) (.e (.call D_law_uses [.v 8])) [] (.idx (.v 3) (.v 12))]), .asg (.tup [.v 6, .v 7]) (.tup [.bin .add (.v 6) (.c (.int 1)), .bin .add (.v 7) (.c (.int 1))]), .ite (.cmp .inn (.v 9) (.lst [.c (.str "set"), .c (.str "sum"), .c (.str "mul")])) [.asg (.idx (.v 3) (.idx (.v 8) (.c (.int 1)))) (.call D_law_made_2 [.v 8, .v 10])] [], .ite (.cmp .eq (.v 9) (.c (.str "load"))) [.asg (.idx (.v 3) (.idx (.v 8) (.c (.int 1)))) (.idx (.v 4) (.bin .mod (.bi .int [.bin .add (.idx (.v 10) (.c (.int 0))) (.idx (.v 8) (.c (.int 3)))]) (.c (.int 16))))] [], .ite (.cmp .eq (.v 9) (.c (.str "store"))) [.asg (.idx (.v 4) (.bin .mod (.bi .int [.bin .add (.idx (.v 10) (.c (.int 0))) (.idx (.v 8) (.c (.int 3)))]) (.c (.int 16)))) (.idx (.v 10) (.c (.int 1)))] [], .ite (.cmp .eq (.v 9) (.c (.str "out"))) [.ex (.bm .append (.v 5) [.idx (.v 10) (.c (.int 0))])] [], .ite (.or_ (.cmp .eq (.v 9) (.c (.str "go"))) [.and_ (.cmp .eq (.v 9) (.c (.str "zero"))) [.cmp .eq (.idx (.v 10) (.c (.int 0))) (.c (.int 0))]]) [.asg (.v 6) (.idx (.v 8) (.neg (.c (.int 1))))] []]
theorem law_turn {n : Nat} {base g : Store} {p : List Ins} {s0 s : PS} {i : Ins} {m most t c : Int} {x8 x9 x10 : Option IV} (hi : i.ok m) (hs : s.ok) (ho : s.outs.length ≤ 100000) (h0 : 0 ≤ t) (hp : p[t.toNat]? = some i) :
    ∃ g' y8 y9 y10, evSs (callM FUEL (n + 2)) D_law_plain FUEL lawB (lawE base p s0 most t c x8 x9 x10) (S3 base s.regs s.cells s.outs g) =
      .nx (lawE base p s0 most (i.step s t).2 (c + 1) y8 y9 y10) (S3 base (i.step s t).1.regs (i.step s t).1.cells (i.step s t).1.outs g') := by
  obtain ⟨lt, -⟩ := List.getElem?_eq_some_iff.mp hp
  have ha : atN p.length t = some t.toNat := atN_pos h0 (by omega)
  have reg : ∀ a, isReg a → ∀ st', idxR (some (.lst (s.regs.map .int))) a st' = .ok (.v (.int (nth s.regs a))) st' := fun a ha st' => idxI ha.1 (by rw [hs.rl]; exact ha.2)
  have cel : ∀ a st', idxR (some (.lst (s.cells.map .int))) (a % 16) st' = .ok (.v (.int (nth s.cells (a % 16)))) st' := fun a st' => idxI (Int.emod_nonneg _ (by decide)) (by rw [hs.cl]; exact Int.emod_lt_of_pos _ (by decide))
  have chr : ∀ a v r st', isReg a → setR r a (.int v) st' (some (.lst (s.regs.map .int))) = some (st'.set r (.lst ((put s.regs a v).map .int))) := fun a v r st' ha => setI ha.1 (by rw [hs.rl]; exact ha.2)
  have chc : ∀ a v r st', setR r (a % 16) (.int v) st' (some (.lst (s.cells.map .int))) = some (st'.set r (.lst ((put s.cells (a % 16) v).map .int))) := fun a v r st' => setI (Int.emod_nonneg _ (by decide)) (by rw [hs.cl]; exact Int.emod_lt_of_pos _ (by decide))
  have pv : ∀ st', idxM (.v (progV p)) (.v (.int t)) st' = .ok (.v i.iv) st' := fun st' => by simp [progV, ha, hp]
  have out : ∀ v r st', appR st' r (.v (.int v)) (some (.lst (s.outs.map .int))) = .ok (.v .non) (st'.set r (.lst ((s.outs ++ [v]).map .int))) := fun v r st' => appI ho
  refine ⟨g ++ [.lst (i.regs.map fun a => .int (nth s.regs a))], some i.iv, some (.str (Str.ofString i.kind)), some (.ref (S3 base s.regs s.cells s.outs g).length), ?_⟩
  cases i with
  | idle => simp [lawB, lawE, pv, law_kind_ok, Ins.kind, law_uses_ok, Ins.uses, useA, useB, compF, wipeN, Ins.step, Ins.regs]
  | set d x =>
    have hd : ∀ st', idxM (.v (Ins.set d x).iv) (.v (.int 1)) st' = .ok (.v (.int d)) st' := fun st' => by simp [Ins.iv]
    simp [lawB, lawE, pv, law_kind_ok, Ins.kind, law_uses_ok, Ins.uses, useA, useB, compF, wipeN, Ins.step, Ins.regs, made2_set S3_lt, hd, setIdx_E, chr d _ _ _ hi.1]
  | op w d a b =>
    have hd : ∀ st', idxM (.v (Ins.op w d a b).iv) (.v (.int 1)) st' = .ok (.v (.int d)) st' := fun st' => by simp [Ins.iv]
    simp [lawB, lawE, pv, law_kind_ok, Ins.kind, law_uses_ok, Ins.uses, useA, useB, compF, wipeN, Ins.step, Ins.regs, idx_E, reg a hi.2.1, reg b hi.2.2, made2_op S3_w (hs.reg hi.2.1) (hs.reg hi.2.2), hd, setIdx_E, chr d _ _ _ hi.1]
  | mul d a b =>
    have hd : ∀ st', idxM (.v (Ins.mul d a b).iv) (.v (.int 1)) st' = .ok (.v (.int d)) st' := fun st' => by simp [Ins.iv]
    simp [lawB, lawE, pv, law_kind_ok, Ins.kind, law_uses_ok, Ins.uses, useA, useB, compF, wipeN, Ins.step, Ins.regs, idx_E, reg a hi.2.1, reg b hi.2.2, made2_mul S3_w (hs.reg hi.2.1), hd, setIdx_E, chr d _ _ _ hi.1]
  | load d a x =>
    have hd : ∀ st', idxM (.v (Ins.load d a x).iv) (.v (.int 1)) st' = .ok (.v (.int d)) st' := fun st' => by simp [Ins.iv]
    have hx : ∀ st', idxM (.v (Ins.load d a x).iv) (.v (.int 3)) st' = .ok (.v (.int x)) st' := fun st' => by simp [Ins.iv]
    simp [lawB, lawE, pv, law_kind_ok, Ins.kind, law_uses_ok, Ins.uses, useA, useB, compF, wipeN, Ins.step, Ins.regs, idx_E, reg a hi.2.1, cel, hd, hx, setIdx_E, chr d _ _ _ hi.1]
  | store b a x =>
    have hx : ∀ st', idxM (.v (Ins.store b a x).iv) (.v (.int 3)) st' = .ok (.v (.int x)) st' := fun st' => by simp [Ins.iv]
    simp [lawB, lawE, pv, law_kind_ok, Ins.kind, law_uses_ok, Ins.uses, useA, useB, compF, wipeN, Ins.step, Ins.regs, idx_E, reg a hi.2.1, reg b hi.1, chc, hx, setIdx_E]
  | zero a x =>
    have hx : ∀ st', idxM (.v (Ins.zero a x).iv) (.v (.int (-1))) st' = .ok (.v (.int x)) st' := fun st' => by simp [Ins.iv]
    by_cases hz : nth s.regs a = 0
    · simp [lawB, lawE, pv, law_kind_ok, Ins.kind, law_uses_ok, Ins.uses, useA, useB, compF, wipeN, Ins.step, Ins.regs, idx_E, reg a hi.1, hx, hz]
    · simp [lawB, lawE, pv, law_kind_ok, Ins.kind, law_uses_ok, Ins.uses, useA, useB, compF, wipeN, Ins.step, Ins.regs, idx_E, reg a hi.1, hx, hz]
  | go x =>
    have hx : ∀ st', idxM (.v (Ins.go x).iv) (.v (.int (-1))) st' = .ok (.v (.int x)) st' := fun st' => by simp [Ins.iv]
    simp [lawB, lawE, pv, law_kind_ok, Ins.kind, law_uses_ok, Ins.uses, useA, useB, compF, wipeN, Ins.step, Ins.regs, hx]
  | out a => simp [lawB, lawE, pv, law_kind_ok, Ins.kind, law_uses_ok, Ins.uses, useA, useB, compF, wipeN, Ins.step, Ins.regs, idx_E, reg a hi, app_E, isLst_E, out]
def lawT : E := .and_ (.cmp .lt (.v 6) (.bi .len [.v 0])) [.cmp .lt (.v 7) (.v 2)]
theorem law_loop {n : Nat} {st : Store} {p : List Ins} {s : PS} {most : Nat} (hp : ∀ i ∈ p, i.ok p.length) (hs : s.ok) (ho : s.outs.length ≤ 1000) (hm : most ≤ 1000) : ∃ env' st', whlF (whlT (callM FUEL (n + 2)) D_law_plain lawT) (evSs (callM FUEL (n + 2)) D_law_plain FUEL lawB) FUEL (lawE st p s most 0 0 none none none) (S3 st s.regs s.cells s.outs []) = .nx env' st' ∧
    ∃ g x8 x9 x10, env' = lawE st p s most (runN p most s 0 0).2.1 (runN p most s 0 0).2.2 x8 x9 x10 ∧ st' = S3 st (runN p most s 0 0).1.regs (runN p most s 0 0).1.cells (runN p most s 0 0).1.outs g := by
  have lp : ∀ st', lenOf st' (.v (progV p)) = some p.length := fun st' => by simp [progV]
  refine whl_inv (fun k env st' => ∃ s1 t c g x8 x9 x10, env = lawE st p s most t c x8 x9 x10 ∧ st' = S3 st s1.regs s1.cells s1.outs g ∧ s1.ok ∧ 0 ≤ t ∧ t ≤ p.length ∧ c + k = most ∧ s1.outs.length + k ≤ 1000 + most ∧ runN p k s1 t c = runN p most s 0 0)
    _ ?_ FUEL most _ _ (by show most < 10000; omega) ⟨s, 0, 0, [], none, none, none, rfl, rfl, hs, by omega, by omega, by omega, by omega, rfl⟩
  rintro k _ _ ⟨s1, t, c, g, x8, x9, x10, rfl, rfl, h1, h2, h3, h4, h5, h6⟩
  by_cases q : t < p.length ∧ c < most
  · right
    cases k with
    | zero => omega
    | succ k =>
      obtain ⟨i, hi⟩ : ∃ i, p[t.toNat]? = some i := ⟨_, List.getElem?_eq_getElem (by omega)⟩
      have ok := hp i (List.mem_of_getElem? hi)
      have z := step_at (s := s1) (t := t) ok h2 q.1
      have so := step_outs (i := i) (s := s1) (t := t)
      obtain ⟨g', y8, y9, y10, e⟩ := law_turn (n := n) (base := st) (g := g) (s0 := s) (most := most) (c := c) (x8 := x8) (x9 := x9) (x10 := x10) ok h1 (by omega) h2 hi
      refine ⟨by simp [whlT_s, lawT, lawE, lp, q.1, q.2], k, _, _, rfl, e, _, _, _, g', y8, y9, y10, rfl, rfl, step_ok ok h1, z.1, z.2, by omega, by omega, ?_⟩
      rw [← h6]
      simp only [runN, hi]
  · left
    have e : runN p k s1 t c = (s1, t, c) := by
      by_cases q1 : t < p.length
      · have : k = 0 := by omega
        subst this
        rfl
      · exact runN_end (by omega)
    refine ⟨by by_cases h : t < p.length <;> simp [whlT_s, lawT, lawE, lp, h]; omega, g, x8, x9, x10, ?_⟩
    rw [← h6, e]
    exact ⟨rfl, rfl⟩
theorem law_plain_ok {n : Nat} {st : Store} {p : List Ins} {s : PS} {most : Nat} (hp : ∀ i ∈ p, i.ok p.length) (hs : s.ok) (ho : s.outs.length ≤ 1000) (hm : most ≤ 1000) : callWith (callM FUEL (n + 3)) D_law_plain [.v (progV p), .v s.iv, .v (.int most)] st = .ok (.v (.tup [(runN p most s 0 0).1.iv, .int (runN p most s 0 0).2.1, .int (runN p most s 0 0).2.2])) st := by
  suffices h : ∃ t, exitF (evSs (callM FUEL (n + 2)) D_law_plain FUEL B_law_plain (startE D_law_plain [progV p, s.iv, .int most]) st) = .ok (.v (.tup [(runN p most s 0 0).1.iv, .int (runN p most s 0 0).2.1, .int (runN p most s 0 0).2.2])) (st ++ t) by
    obtain ⟨t, h⟩ := h
    exact call_same (t := []) (t' := t) (xs := [progV p, s.iv, .int most]) (by simp) (by rw [call_go rfl, List.append_nil]; exact h) (by simp [IV.low, IV.lows])
  obtain ⟨env', st', e1, g, x8, x9, x10, rfl, rfl⟩ := law_loop (n := n) (st := st) hp hs ho hm
  refine ⟨.lst ((runN p most s 0 0).1.regs.map .int) :: .lst ((runN p most s 0 0).1.cells.map .int) :: .lst ((runN p most s 0 0).1.outs.map .int) :: g, ?_⟩
  rw [← S3_base]
  have e2 := e1
  rw [S3_base] at e2
  simp only [lawE, lawT, lawB, PS.iv, ivs] at e2
  simp [B_law_plain, startE, PS.iv, ivs]
  rw [e2]
  simp [items_E]
end MP.Lw

set_option linter.all false
set_option autoImplicit false
set_option Elab.async false
set_option maxRecDepth 100000
set_option maxHeartbeats 4000000
namespace MP.Lw
open PySem
/-! ### draws in a row -/
theorem comp_draws {α : Type} {P : α → Prop} (f : α → IV) {q : Sq} {E : Nat → Env} {tgt : Env → IV → Store → Res Env} {ifs : Env → Store → Res Bool} {elt : Env → Store → Res TV} (hq : ∀ st, q.stays st = true) :
    ∀ (xs : List IV) (w : Row), (∀ x ∈ xs, ∀ w : Row, ∃ (a : α) (w' : Row), P a ∧ ∀ (st : Store) (r : Nat), r < st.length → ∃ env1, tgt (E r) x (st.set r w.io) = .ok env1 (st.set r w.io) ∧ ifs env1 (st.set r w.io) = .ok true (st.set r w.io) ∧ elt env1 (st.set r w.io) = .ok (.v (f a)) (st.set r w'.io)) →
    ∃ (l : List α) (w' : Row), l.length = xs.length ∧ (∀ a ∈ l, P a) ∧ ∀ (st : Store) (r : Nat) (acc : List IV), r < st.length → acc.length + xs.length ≤ lineN → compF q (E r) tgt ifs elt xs acc (st.set r w.io) = .ok (.l (acc ++ l.map f)) (st.set r w'.io)
  | [], w, _ => ⟨[], w, rfl, fun a h => (by cases h), fun st r acc _ _ => (by simp [compF, hq])⟩
  | x :: xs, w, h => by
    obtain ⟨a, w1, pa, ha⟩ := h x List.mem_cons_self w
    obtain ⟨l, w2, hl, pl, kl⟩ := comp_draws f hq xs w1 fun y hy => h y (List.mem_cons_of_mem _ hy)
    refine ⟨a :: l, w2, by simp [hl], fun b hb => (List.mem_cons.mp hb).elim (fun e => e ▸ pa) (pl b), fun st r acc hr ht => ?_⟩
    obtain ⟨env1, h1, h2, h3⟩ := ha st r hr
    simp only [List.length_cons] at ht
    have lt : acc.length < lineN := by omega
    simp only [compF, hq, if_true, h1, quiet_ok, bind_ok, h2, h3, mat_v, lt]
    rw [kl st r (acc ++ [f a]) hr (by rw [List.length_append, List.length_singleton]; omega)]
    simp
theorem words_draw {n : Nat} {me : FnDef} {i : Nat} {E : Nat → Env} (m : Nat) (hm : m ≤ 1000) (w : Row) (hE : ∀ r x, compT (callM FUEL (n + 3)) me (.v i) (E r) x = fun st => .ok { E r with sl := (E r).sl.set i (some x) } st) (h0 : ∀ r x, ((E r).sl.set i (some x))[0]? = some (some (.ref r))) :
    ∃ (l : List Int) (w' : Row), l.length = m ∧ (∀ a ∈ l, isWord a) ∧ ∀ (st : Store) (r : Nat), r < st.length → compF ⟨rngL 0 m, none⟩ (E r) (compT (callM FUEL (n + 3)) me (.v i)) (evIfs (callM FUEL (n + 3)) me []) (evE (callM FUEL (n + 3)) me (.call D_law_word [.v 0])) (rngL 0 m) [] (st.set r w.io) = .ok (.l (l.map .int)) (st.set r w'.io) := by
  obtain ⟨l, w', h1, h2, h3⟩ := comp_draws (P := isWord) IV.int (q := ⟨rngL 0 m, none⟩) (E := E) (tgt := compT (callM FUEL (n + 3)) me (.v i)) (ifs := evIfs (callM FUEL (n + 3)) me []) (elt := evE (callM FUEL (n + 3)) me (.call D_law_word [.v 0])) (fun _ => rfl) (rngL 0 m) w fun x _ w => by
    obtain ⟨a, w1, ha, ka⟩ := word_int (fu := FUEL) (n := n) w
    exact ⟨a, w1, ha, fun st r hr => ⟨_, by rw [hE], by simp, by simp [h0, ka st r hr]⟩⟩
  refine ⟨l, w', by simpa using h1, h2, fun st r hr => ?_⟩
  have := h3 st r [] hr (by simp; omega)
  rwa [List.nil_append] at this
theorem state_draw {n : Nat} (w : Row) : ∃ (s : PS) (w' : Row), (s.ok ∧ s.outs.length ≤ 1) ∧ Draws (fun r st => callWith (callM FUEL (n + 4)) D_law_state [.v (.ref r)] st) w (.v s.iv) w' := by
  have lt : ∀ (r : Nat) (x1 : Option IV) (x : IV), compT (callM FUEL (n + 3)) D_law_state (.v 2) { sl := [some (.ref r), x1, none], hx := none, lm := [] } x = fun st => .ok { sl := [some (.ref r), x1, some x], hx := none, lm := [] } st := fun r x1 x => by funext st; simp
  obtain ⟨a, w1, a1, a2, a3⟩ := words_draw (n := n) (me := D_law_state) (i := 2) (E := fun r => { sl := [some (.ref r), none, none], hx := none, lm := [] }) 4 (by decide) w (fun r x => by rw [lt]; rfl) (fun r x => rfl)
  obtain ⟨b, w2, b1, b2, b3⟩ := words_draw (n := n) (me := D_law_state) (i := 2) (E := fun r => { sl := [some (.ref r), some (ivs (a ++ [1, 2, 3, 0])), none], hx := none, lm := [] }) 8 (by decide) w1 (fun r x => by rw [lt]; rfl) (fun r x => rfl)
  obtain ⟨c, w3, c1, c2⟩ := pick_int (fu := FUEL) (n := n + 2) w2 2 (by decide) (by decide)
  refine ⟨⟨a ++ [1, 2, 3, 0], b ++ [7, 6, 5, 4, 3, 2, 1, 0], List.replicate c.toNat 9⟩, w3, ⟨⟨by simp [a1], by simp [b1], fun x hx => ?_, fun x hx => ?_, fun x hx => ?_⟩, by simp; omega⟩, .def_ (as := []) (fun _ => PS.low _) rfl fun st r hr => ?_⟩
  · rcases List.mem_append.mp hx with h | h
    · exact a2 x h
    · simp only [List.mem_cons, List.not_mem_nil, or_false] at h
      unfold isWord
      omega
  · rcases List.mem_append.mp hx with h | h
    · exact b2 x h
    · simp only [List.mem_cons, List.not_mem_nil, or_false] at h
      unfold isWord
      omega
  · rw [(List.mem_replicate.mp hx).2]; exact ⟨by decide, by decide⟩
  · have e1 := a3 st r hr
    have e2 := b3 st r hr
    simp only [ivs] at e2
    have in4 : inB 4 = true := by decide
    have in8 : inB 8 = true := by decide
    have c2 := c2 st r hr
    have nine : (List.replicate c.toNat [IV.int 9]).flatten = List.replicate c.toNat (IV.int 9) := by
      have : c.toNat = 0 ∨ c.toNat = 1 := by omega
      rcases this with e | e <;> rw [e] <;> rfl
    have c1' : c ≤ 1000 := by omega
    simp [B_law_state, startE, in4, in8, wipeN, PS.iv, ivs]
    rw [e1]
    have e2 := e2
    simp only [List.map_append, List.map_cons, List.map_nil] at e2
    simp [a1, in8, wipeN]
    rw [e2]
    have mt : ∀ st', binM .mul (.v (.tup [.int 9])) (.v (.int c)) st' = .ok (.v (.tup (List.replicate c.toNat (.int 9)))) st' := fun st' => by rw [mul_tup c1.1 c1' (by decide) (by decide), nine]
    simp [b1, c2, mt]
theorem program_draw {n : Nat} (w : Row) (most : Nat) (hm : most ≤ 60) : ∃ (p : List Ins) (w' : Row), (PrOk p ∧ p.length ≤ most) ∧ Draws (fun r st => callWith (callM FUEL (n + 5)) D_law_program [.v (.ref r), .v (.int most)] st) w (.v (progV p)) w' := by
  obtain ⟨m, w1, hm1, km⟩ := pick_int (fu := FUEL) (n := n + 3) w (most + 1) (by omega) (by omega)
  obtain ⟨k, rfl⟩ := Int.eq_ofNat_of_zero_le hm1.1
  have lt : ∀ (r : Nat) (x : IV), compT (callM FUEL (n + 4)) D_law_program (.v 3) { sl := [some (.ref r), some (.int most), some (.int k), none], hx := none, lm := [] } x = fun st => .ok { sl := [some (.ref r), some (.int most), some (.int k), some x], hx := none, lm := [] } st := fun r x => by funext st; simp
  obtain ⟨p, w2, p1, p2, p3⟩ := comp_draws (P := fun i : Ins => i.ok k) Ins.iv (q := ⟨rngL 0 k, none⟩) (E := fun r => { sl := [some (.ref r), some (.int most), some (.int k), none], hx := none, lm := [] }) (tgt := compT (callM FUEL (n + 4)) D_law_program (.v 3)) (ifs := evIfs (callM FUEL (n + 4)) D_law_program []) (elt := evE (callM FUEL (n + 4)) D_law_program (.call D_law_instruction [.v 0, .v 2])) (fun _ => rfl) (rngL 0 k) w1 fun x _ w => by
    obtain ⟨a, w1, ha, ka⟩ := instr_draw (fu := FUEL) (n := n) w k (by omega) (by omega)
    exact ⟨a, w1, ha k (Int.le_refl _), fun st r hr => ⟨_, by rw [lt], by simp, by simp [ka st r hr]⟩⟩
  have len : p.length = k := by simpa using p1
  refine ⟨p, w2, ⟨⟨by omega, fun i hi => by rw [len]; exact p2 i hi⟩, by omega⟩, .def_ (as := [.int most]) (fun _ => progV_low) rfl fun st r hr => ?_⟩
  have e1 := p3 st r [] hr (by simp; omega)
  rw [List.nil_append] at e1
  have km := km st r hr
  simp [B_law_program, startE, km, inB_nat (show k ≤ lineN by rw [lineN_eq]; omega), wipeN]
  rw [e1]
  simp [progV]
end MP.Lw

set_option linter.all false
set_option autoImplicit false
set_option Elab.async false
set_option maxRecDepth 100000
namespace MP
open PySem
def D_law_k05_lam0E : E := .call D_ended [.v 0, .v 1]
def B_law_k05_lam0 : List S := [.ret D_law_k05_lam0E]
def D_law_k05_lam0 : FnDef := .mk "<lambda>" 2 ["_law_program_here", "_law_state_here"] B_law_k05_lam0 []
@[simp] theorem D_law_k05_lam0_b : D_law_k05_lam0.body = B_law_k05_lam0 := id rfl
@[simp] theorem D_law_k05_lam0_N : D_law_k05_lam0.N.length = 2 := id rfl
@[simp] theorem D_law_k05_lam0_np : D_law_k05_lam0.np = 2 := id rfl
def B_law_told_k05_of0 : List S := [.tryO [.ret (.act)] 23 "TooLong" [.ret (.c (.str "long"))]]
def D_law_told_k05_of0 : FnDef := .mk "_law_told" 2 ["0", "1", "_law_work"] B_law_told_k05_of0 [(0, D_law_k05_lam0, [0, 1])]
@[simp] theorem D_law_told_k05_of0_b : D_law_told_k05_of0.body = B_law_told_k05_of0 := id rfl
@[simp] theorem D_law_told_k05_of0_N : D_law_told_k05_of0.N.length = 3 := id rfl
@[simp] theorem D_law_told_k05_of0_np : D_law_told_k05_of0.np = 2 := id rfl
@[simp] theorem D_law_told_k05_of0_w : D_law_told_k05_of0.ws = [(0, D_law_k05_lam0, [0, 1])] := id rfl
def B_law_k05 : List S := [.asg (.v 1) (.lst [.v 0, .c (.int 0), .c (.int 14305), .c (.int 0)]), .asg (.tup [.v 2, .v 3]) (.tup [.call D_law_program [.v 1, .c (.int 20)], .call D_law_state [.v 1]]), .asg (.v 4) (.call D_law_pick [.v 1, .lst [.c (.int 0), .c (.int 1), .c (.int 7), .c (.int 40), .c (.int 1000)]]), .asg (.v 5) (.call D_law_plain [.v 2, .v 3, .v 4]), .ite (.not_ (.call D_law_alike [.call D_ran [.v 2, .v 3, .v 4], .v 5])) [.ret (.c (.bl false))] [], .asg (.tup [.v 6, .v 7, .v 8]) (.call D_law_plain [.v 2, .v 3, .c (.int 1000)]), .asg (.v 9) (.wlit 0), .ite (.cmp .ne (.v 9) (.ite (.cmp .lt (.v 7) (.bi .len [.v 2])) (.c (.str "long")) (.tup [.v 6, .v 8]))) [.ret (.c (.bl false))] [], .ite (.cmp .eq (.v 2) (.tup [])) [.ret (.cmp .eq (.v 9) (.tup [.v 3, .c (.int 0)]))] [], .asg (.v 10) (.call D_law_taken [.v 1, .bi .len [.v 2]]), .asg (.v 11) (.idx (.v 2) (.v 10)), .asg (.tup [.v 12, .v 13]) (.call D_stepped [.v 2, .v 3, .v 10]), .asg (.v 14) (.bin .add (.bin .add (.bin .mul (.tup [.tup [.c (.str "idle")]]) (.v 10)) (.tup [.v 11])) (.bin .mul (.tup [.tup [.c (.str "idle")]]) (.bin .sub (.bin .sub (.bi .len [.v 2]) (.v 10)) (.c (.int 1))))), .asg (.tup [.v 15, .v 16, .v 17]) (.call D_law_plain [.v 14, .v 3, .bin .add (.v 10) (.c (.int 1))]), .ret (.and_ (.call D_law_alike [.tup [.v 12, .v 13], .tup [.v 15, .v 16]]) [.cmp .eq (.call D_ran [.v 2, .v 3, .c (.int 0)]) (.tup [.v 3, .c (.int 0), .c (.int 0)])])]
def D_law_k05 : FnDef := .mk "law" 1 ["_law_script", "_law_row", "_law_program_here", "_law_state_here", "_law_most", "_law_due", "_law_last", "_law_at", "_law_done", "_law_told_here", "_law_place", "_law_one", "_law_moved", "_law_after", "_law_single", "_law_plain_here", "_law_here", "_law_steps"] B_law_k05 [(0, D_law_told_k05_of0, [2, 3])]
@[simp] theorem D_law_k05_b : D_law_k05.body = B_law_k05 := id rfl
@[simp] theorem D_law_k05_N : D_law_k05.N.length = 18 := id rfl
@[simp] theorem D_law_k05_np : D_law_k05.np = 1 := id rfl
@[simp] theorem D_law_k05_w : D_law_k05.ws = [(0, D_law_told_k05_of0, [2, 3])] := id rfl
end MP

set_option linter.all false
set_option autoImplicit false
set_option Elab.async false
set_option maxRecDepth 100000
set_option maxHeartbeats 4000000
namespace MP.Lw
open PySem
/-! ### k05: the law -/
theorem ivs_plain (xs : List Int) : (ivs xs).plain = true ∧ (ivs xs).dep = 1 := by simp [ivs, plains_ivs, deps_ivs]
theorem ivs_fit {xs : List Int} (h : xs.length ≤ lineN) : (ivs xs).fit = true := by
  simp only [ivs, IV.fit, List.length_map, h, decide_true, fits_ivs, Bool.and_self]
theorem PS.plain (s : PS) : s.iv.plain = true := by simp [PS.iv, (ivs_plain _).1]
theorem PS.dep (s : PS) : s.iv.dep = 2 := by simp [PS.iv, (ivs_plain _).2]
theorem PS.fit {s : PS} (h : s.ok) (ho : s.outs.length ≤ 100000) : s.iv.fit = true := by
  have h1 : s.regs.length ≤ lineN := by rw [h.rl, lineN_eq]; decide
  have h2 : s.cells.length ≤ lineN := by rw [h.cl, lineN_eq]; decide
  have h3 : s.outs.length ≤ lineN := by rw [lineN_eq]; omega
  simp [PS.iv, IV.fit, IV.fits, ivs_fit h1, ivs_fit h2, ivs_fit h3]
theorem Ins.plain (i : Ins) : i.iv.plain = true := by
  cases i <;> simp [Ins.iv]
theorem Ins.dep1 (i : Ins) : i.iv.dep = 1 := by
  cases i <;> simp [Ins.iv] <;> rfl
theorem Ins.fit (i : Ins) : i.iv.fit = true := by
  cases i <;> simp [Ins.iv, IV.fit, IV.fits]
theorem plains_ins : ∀ p : List Ins, IV.plains (p.map Ins.iv) = true
  | [] => rfl
  | i :: p => by simp [i.plain, plains_ins p]
theorem deps_ins : ∀ p : List Ins, IV.deps (p.map Ins.iv) ≤ 1
  | [] => by simp
  | i :: p => by simp [i.dep1, deps_ins p]
/-- outs grow by one a step at most -/
theorem runN_outs {p : List Ins} : ∀ {k : Nat} {s : PS} {t c : Int}, (runN p k s t c).1.outs.length ≤ s.outs.length + k
  | 0, s, t, c => Nat.le_refl _
  | k + 1, s, t, c => by
    simp only [runN]
    split
    · have h1 := step_outs (i := ‹Ins›) (s := s) (t := t)
      have h2 := runN_outs (p := p) (k := k) (s := ((‹Ins› : Ins).step s t).1) (t := ((‹Ins› : Ins).step s t).2) (c := c + 1)
      omega
    · show s.outs.length ≤ _
      omega
/-- the program with one instruction alone, idle ones around -/
def single (i : Ins) (a b : Nat) : List Ins := List.replicate a .idle ++ (i :: List.replicate b .idle)
theorem single_run {i : Ins} {a b : Nat} {s : PS} : ∀ (k : Nat), k ≤ a → runN (single i a b) (k + 1) s ((a - k : Nat) : Int) ((a - k : Nat) : Int) = ((i.step s a).1, (i.step s a).2, (a : Int) + 1)
  | 0, _ => by
    simp only [runN, Nat.sub_zero, Int.toNat_natCast]
    have : (single i a b)[a]? = some i := by unfold single; simp
    rw [this]
  | k + 1, h => by
    have e : (single i a b)[a - (k + 1)]? = some .idle := by
      unfold single
      rw [List.getElem?_append_left (by rw [List.length_replicate]; omega), List.getElem?_replicate, if_pos (by omega)]
    rw [runN, Int.toNat_natCast, e]
    have := single_run (i := i) (a := a) (b := b) (s := s) k (by omega)
    have q : ((a - (k + 1) : Nat) : Int) + 1 = ((a - k : Nat) : Int) := by omega
    simp only [Ins.step, q]
    exact this
theorem single_at {i : Ins} {a b : Nat} {s : PS} : runN (single i a b) (a + 1) s 0 0 = ((i.step s a).1, (i.step s a).2, (a : Int) + 1) := by
  have := single_run (i := i) (a := a) (b := b) (s := s) a (Nat.le_refl _)
  simpa using this
section
variable {w : Row} {p : List Ins} {s : PS} {n : Nat}
theorem told_ok (hp : PrOk p) (hs : s.ok) (ho : s.outs.length ≤ 1000) : gc [w.io] (callM FUEL (n + 8) D_law_told_k05_of0 [progV p, s.iv] [w.io]) = .ok (.v (if (runN p 1000 s 0 0).2.1 < p.length then .str "long" else .tup [(runN p 1000 s 0 0).1.iv, .int (runN p 1000 s 0 0).2.2])) [w.io] := by
  by_cases h : (runN p 1000 s 0 0).2.1 < p.length
  · have e : gc [w.io] (callM FUEL (n + 7) D_law_k05_lam0 [progV p, s.iv] [w.io]) = .exc ⟨23, some (.int 1000)⟩ [w.io] := by
      rw [call_go rfl]
      simp [B_law_k05_lam0, startE, D_law_k05_lam0E, ended_no hp hs ho h]
      simpa using gc_samex (st := [w.io]) (t := []) (e := ⟨23, some (.int 1000)⟩) rfl
    rw [call_go rfl, if_pos h]
    simp [B_law_told_k05_of0, startE, actM_s D_law_told_k05_of0_w, e]
    simpa using gc_same (st := [w.io]) (t := []) (y := .str "long") rfl
  · have e : gc [w.io] (callM FUEL (n + 7) D_law_k05_lam0 [progV p, s.iv] [w.io]) = .ok (.v (.tup [(runN p 1000 s 0 0).1.iv, .int (runN p 1000 s 0 0).2.2])) [w.io] := by
      rw [call_go rfl]
      simp [B_law_k05_lam0, startE, D_law_k05_lam0E, ended_ok hp hs ho (by omega)]
      simpa using gc_same (st := [w.io]) (t := []) (y := .tup [(runN p 1000 s 0 0).1.iv, .int (runN p 1000 s 0 0).2.2]) (by simp [IV.low, IV.lows])
    rw [call_go rfl, if_neg h]
    simp [B_law_told_k05_of0, startE, actM_s D_law_told_k05_of0_w, e]
    simpa using gc_same (st := [w.io]) (t := []) (y := .tup [(runN p 1000 s 0 0).1.iv, .int (runN p 1000 s 0 0).2.2]) (by simp [IV.low, IV.lows])
end
end MP.Lw

set_option linter.all false
set_option autoImplicit false
set_option Elab.async false
set_option maxRecDepth 100000
set_option maxHeartbeats 8000000
namespace MP.Lw
open PySem
theorem progV_plain (p : List Ins) : (progV p).plain = true ∧ (progV p).dep ≤ 2 := by
  simp only [progV, plain_tup, dep_tup, plains_ins, true_and]
  have := deps_ins p
  omega
theorem single_V (i : Ins) (a b : Nat) : progV (single i a b) = .tup (List.replicate a Ins.idle.iv ++ i.iv :: List.replicate b Ins.idle.iv) := by simp [progV, single]
theorem idles (k : Nat) : (List.replicate k [Ins.idle.iv]).flatten = List.replicate k Ins.idle.iv := by simp
theorem eq_prog (p : List Ins) (st : Store) : eqM (.v (progV p)) (.v (.tup [])) st = some (decide (p = [])) := by
  rw [eqM_plain (progV_plain p).1 (by simp) (by have := (progV_plain p).2; omega)]
  cases p with
  | nil => simp [progV]
  | cons i p => simp [progV]; rfl
/-- the law's end: one step, told by the machine on idle ones -/
abbrev endB : List S := [.asg (.v 10) (.call D_law_taken [.v 1, .bi .len [.v 2]]), .asg (.v 11) (.idx (.v 2) (.v 10)), .asg (.tup [.v 12, .v 13]) (.call D_stepped [.v 2, .v 3, .v 10]), .asg (.v 14) (.bin .add (.bin .add (.bin .mul (.tup [.tup [.c (.str "idle")]]) (.v 10)) (.tup [.v 11])) (.bin .mul (.tup [.tup [.c (.str "idle")]]) (.bin .sub (.bin .sub (.bi .len [.v 2]) (.v 10)) (.c (.int 1))))), .asg (.tup [.v 15, .v 16, .v 17]) (.call D_law_plain [.v 14, .v 3, .bin .add (.v 10) (.c (.int 1))]), .ret (.and_ (.call D_law_alike [.tup [.v 12, .v 13], .tup [.v 15, .v 16]]) [.cmp .eq (.call D_ran [.v 2, .v 3, .c (.int 0)]) (.tup [.v 3, .c (.int 0), .c (.int 0)])])]
theorem end_ok {ns : List Int} {w : Row} {p : List Ins} {s : PS} (hp : PrOk p) (lp : p.length ≤ 20) (hs : s.ok) (ho : s.outs.length ≤ 1) (ne : p ≠ []) (x4 x5 x6 x7 x8 x9 : Option IV) (L : List (Nat × List Nat)) : ∃ st, exitF (evSs (callM FUEL 39) D_law_k05 FUEL endB { sl := [some (.frz ns), some (.ref 0), some (progV p), some s.iv, x4, x5, x6, x7, x8, x9, none, none, none, none, none, none, none, none], lm := L } [w.io]) = .ok (.v (.bl true)) st := by
  have len0 : 0 < p.length := List.length_pos_iff.mpr ne
  obtain ⟨v, w1, hv, kv⟩ := pick_int (fu := FUEL) (n := 38) w p.length (by omega) (by omega)
  obtain ⟨a, rfl⟩ := Int.eq_ofNat_of_zero_le hv.1
  have ha : a < p.length := by omega
  obtain ⟨i, hi⟩ : ∃ i, p[a]? = some i := ⟨_, List.getElem?_eq_getElem ha⟩
  have hi' : p[((a : Int)).toNat]? = some i := hi
  have ok := hp.ok i (List.mem_of_getElem? hi)
  have kv : callWith (callM FUEL 39) D_law_taken [.v (.ref 0), .v (.int p.length)] [w.io] = .ok (.v (.int a)) [w1.io] := kv.at_ (st := [w.io]) (r := 0) rfl
  have lpv : ∀ st', lenOf st' (.v (progV p)) = some p.length := fun st' => by simp [progV]
  have pv : ∀ st', idxM (.v (progV p)) (.v (.int a)) st' = .ok (.v i.iv) st' := fun st' => by simp [progV, ha, (List.getElem?_eq_some_iff.mp hi).2]
  have k1 := fun st' => stepped_ok (n := 33) (st := st') hp hs (by omega) (t := a) (by omega) hi'
  have sl : (single i a (p.length - a - 1)).length = p.length := by unfold single; simp; omega
  have k2 : ∀ st', callWith (callM FUEL 39) D_law_plain [.v (progV (single i a (p.length - a - 1))), .v s.iv, .v (.int ((a : Int) + 1))] st' = .ok (.v (.tup [(i.step s a).1.iv, .int (i.step s a).2, .int ((a : Int) + 1)])) st' := fun st' => by
    have := law_plain_ok (n := 36) (st := st') (p := single i a (p.length - a - 1)) (s := s) (most := a + 1) (fun j hj => by
      rw [sl]
      unfold single at hj
      rcases List.mem_append.mp hj with h | h
      · rw [(List.mem_replicate.mp h).2]; trivial
      · rcases List.mem_cons.mp h with rfl | h
        · exact ok
        · rw [(List.mem_replicate.mp h).2]; trivial) hs (by omega) (by omega)
    rw [single_at] at this
    exact this
  have so := step_outs (i := i) (s := s) (t := a)
  have sok := step_ok (s := s) (t := a) ok hs
  have k3 : ∀ st', callWith (callM FUEL 39) D_law_alike [.v (.tup [(i.step s a).1.iv, .int (i.step s a).2]), .v (.tup [(i.step s a).1.iv, .int (i.step s a).2])] st' = .ok (.v (.bl true)) st' := fun st' =>
    alike_ok 3 39 _ (by decide) (by simp [PS.plain]) (by simp [IV.fit, IV.fits, PS.fit sok (by omega)]) (by simp [PS.dep]) (by simp [PS.dep])
  have k4 : ∀ st', callWith (callM FUEL 39) D_ran [.v (progV p), .v s.iv, .v (.int 0)] st' = .ok (.v (.tup [s.iv, .int 0, .int 0])) st' := fun st' => ran_ok (n := 33) (most := 0) hp hs (by omega) (by decide)
  have k5 : ∀ st', eqM (.v (.tup [s.iv, .int 0, .int 0])) (.v (.tup [s.iv, .int 0, .int 0])) st' = some true := fun st' => by
    rw [eqM_plain (by simp [PS.plain]) (by simp [PS.plain]) (by simp [PS.dep]), pyEq_rfl (by simp [PS.plain])]
  have m1 : ∀ st', binM .mul (.v (.tup [Ins.idle.iv])) (.v (.int a)) st' = .ok (.v (.tup (List.replicate a Ins.idle.iv))) st' := fun st' => by rw [mul_tup (by omega) (by omega) (by simp) (by simp), ← idles]; rfl
  have m2 : ∀ st', binM .mul (.v (.tup [Ins.idle.iv])) (.v (.int ((p.length : Int) - a - 1))) st' = .ok (.v (.tup (List.replicate (p.length - a - 1) Ins.idle.iv))) st' := fun st' => by
    rw [mul_tup (by omega) (by omega) (by simp) (by simp), ← idles]
    have : ((p.length : Int) - a - 1).toNat = p.length - a - 1 := by omega
    rw [this]
  have sV := single_V i a (p.length - a - 1)
  have b1 : a + 1 + (p.length - a - 1) ≤ 16777216 := by omega
  have b2 : a + 1 ≤ 16777216 := by omega
  refine ⟨[w1.io], ?_⟩
  have ei : Ins.idle.iv = .tup [.str "idle"] := rfl
  simp only [ei] at m1 m2 sV
  simp [lpv, kv, pv, k1, m1, m2, b1, b2]
  rw [← sV]
  simp [k2, k3, k4, k5]
theorem law_holds_k05 (ns : List Int) (len : ns.length ≤ 63) (bits : ∀ z ∈ ns, Builtin.Int.intBits z ≤ 1048576) : ∃ st, callM FUEL LVL D_law_k05 [.frz ns] [] = .ok (.v (.bl true)) st := by
  suffices h : ∃ st, exitF (evSs (callM FUEL 39) D_law_k05 FUEL B_law_k05 (startE D_law_k05 [.frz ns]) []) = .ok (.v (.bl true)) st by
    obtain ⟨st, h⟩ := h
    exact ⟨st, by rw [show LVL = 39 + 1 from rfl, call_go rfl]; exact h⟩
  obtain ⟨p, w1, ⟨hp, lp⟩, kp⟩ := program_draw (n := 34) ⟨ns, 0, 14305, 0, by decide, by decide, by decide, by decide⟩ 20 (by decide)
  obtain ⟨s, w2, ⟨hs, ho⟩, ks⟩ := state_draw (n := 35) w1
  obtain ⟨k, w3, hk, kk⟩ := pick_ok (fu := FUEL) (n := 37) w2 5 (by decide) (by decide)
  have kp : callWith (callM FUEL 39) D_law_program [.v (.ref 0), .v (.int 20)] [.lst [.frz ns, .int 0, .int 14305, .int 0]] = .ok (.v (progV p)) [w1.io] := kp.at_ (st := [.lst [.frz ns, .int 0, .int 14305, .int 0]]) (r := 0) rfl
  have ks : callWith (callM FUEL 39) D_law_state [.v (.ref 0)] [w1.io] = .ok (.v s.iv) [w2.io] := ks.at_ (st := [w1.io]) (r := 0) rfl
  obtain ⟨m, hm, hx⟩ : ∃ m : Nat, m ≤ 1000 ∧ ([.int 0, .int 1, .int 7, .int 40, .int 1000] : List IV)[k]? = some (.int m) := by
    have : k = 0 ∨ k = 1 ∨ k = 2 ∨ k = 3 ∨ k = 4 := by omega
    rcases this with rfl | rfl | rfl | rfl | rfl
    · exact ⟨0, by decide, rfl⟩
    · exact ⟨1, by decide, rfl⟩
    · exact ⟨7, by decide, rfl⟩
    · exact ⟨40, by decide, rfl⟩
    · exact ⟨1000, by decide, rfl⟩
  have kk : callWith (callM FUEL 39) D_law_pick [.v (.ref 0), .l [.int 0, .int 1, .int 7, .int 40, .int 1000]] [w2.io] = .ok (.v (.int m)) [w3.io] := kk [w2.io] 0 _ rfl _ hx rfl rfl
  have a1 := fun st' => law_plain_ok (n := 36) (st := st') (most := m) hp.ok hs (by omega) hm
  have a2 := fun st' => ran_ok (n := 33) (st := st') (most := m) hp hs (by omega) hm
  have o1 := runN_outs (p := p) (k := m) (s := s) (t := 0) (c := 0)
  have ok1 := (runN_ok hp.ok (k := m) (t := 0) (c := 0) hs (by omega) (by omega)).1
  have a3 : ∀ st', callWith (callM FUEL 39) D_law_alike [.v (.tup [(runN p m s 0 0).1.iv, .int (runN p m s 0 0).2.1, .int (runN p m s 0 0).2.2]), .v (.tup [(runN p m s 0 0).1.iv, .int (runN p m s 0 0).2.1, .int (runN p m s 0 0).2.2])] st' = .ok (.v (.bl true)) st' := fun st' =>
    alike_ok 3 39 _ (by decide) (by simp [PS.plain]) (by simp [IV.fit, IV.fits, PS.fit ok1 (by omega)]) (by simp [PS.dep]) (by simp [PS.dep])
  have a4 : ∀ st', callWith (callM FUEL 39) D_law_plain [.v (progV p), .v s.iv, .v (.int 1000)] st' = .ok (.v (.tup [(runN p 1000 s 0 0).1.iv, .int (runN p 1000 s 0 0).2.1, .int (runN p 1000 s 0 0).2.2])) st' := fun st' => law_plain_ok (n := 36) (st := st') (most := 1000) hp.ok hs (by omega) (by decide)
  have a5 := told_ok (n := 31) (w := w3) hp hs (by omega)
  have lpv : ∀ st', lenOf st' (.v (progV p)) = some p.length := fun st' => by simp [progV]
  simp [B_law_k05, startE, kp, ks, kk, a1, a2, a3, a4, lpv, wrun_s, a5]
  have ok2 := (runN_ok hp.ok (k := 1000) (t := 0) (c := 0) hs (by omega) (by omega)).1
  have e1 : ∀ st', eqM (.v (.tup [(runN p 1000 s 0 0).1.iv, .int (runN p 1000 s 0 0).2.2])) (.v (.tup [(runN p 1000 s 0 0).1.iv, .int (runN p 1000 s 0 0).2.2])) st' = some true := fun st' => by
    rw [eqM_plain (by simp [PS.plain]) (by simp [PS.plain]) (by simp [PS.dep]), pyEq_rfl (by simp [PS.plain])]
  by_cases hl : (runN p 1000 s 0 0).2.1 < p.length
  · have ne : p ≠ [] := by
      rintro rfl
      have := (runN_ok (p := []) (by simp) (k := 1000) (t := 0) (c := 0) hs (by omega) (by omega)).2.1
      simp at hl
      omega
    simp [hl, eq_prog, ne]
    exact end_ok hp lp hs ho ne _ _ _ _ _ _ _
  · by_cases ne : p = []
    · subst ne
      have z : runN [] 1000 s 0 0 = (s, 0, 0) := runN_end (by simp)
      simp only [z] at e1 ⊢
      simp [e1, eq_prog]
    · simp [hl, e1, eq_prog, ne]
      exact end_ok hp lp hs ho ne _ _ _ _ _ _ _
end MP.Lw

set_option linter.all false
set_option autoImplicit false
set_option Elab.async false
set_option maxRecDepth 100000
namespace MP
open PySem L2 PySem.Spec PyProof.Rows
def top (i : Nat) : Stmt := PySem.Challenge.pw_stagebelt_k05_whole_plain.main.body.getD i (.Pass ⟨0, 0, 0, 0⟩)
def A_D_law_k05_lam0 : LamA := lamAt (top 56) 0
theorem chk_D_law_k05_lam0 : chkE (scL D_law_k05_lam0.N A_D_law_k05_lam0.scope) D_law_k05_lam0 D_law_k05_lam0E A_D_law_k05_lam0.body = true := by decide +kernel
theorem par_D_law_k05_lam0 : parB A_D_law_k05_lam0.scope A_D_law_k05_lam0.params = true := by decide +kernel
theorem nsc_D_law_k05_lam0 : NdefX.nscB D_law_k05_lam0.N (parNm A_D_law_k05_lam0.params) (D_law_k05_lam0.N.drop (parLen A_D_law_k05_lam0)) A_D_law_k05_lam0.scope = true := by decide +kernel
theorem bnd_D_law_k05_lam0 : LamBind A_D_law_k05_lam0 := ⟨fun _ _ _ _ _ _ _ => rfl, fun z => absurd rfl z⟩
theorem sc_D_law_told_k05_of0 : FnScope (D_law_told_k05_of0.N.drop 2) ["_law_work"] (defScope (top 55)) := ⟨rfl, rfl, rfl, by decide +kernel, rfl, by decide +kernel, by decide +kernel⟩
theorem chk_D_law_told_k05_of0 : chkSs (scW D_law_told_k05_of0.N (defScope (top 55)) "_law_work" [] []) D_law_told_k05_of0 D_law_told_k05_of0.body (defBody (top 55)) = true := by decide +kernel
theorem dc_D_is_integer : DefChk D_is_integer (top 1) (scL D_is_integer.N (defScope (top 1))) := ⟨⟨rfl, rfl, rfl, by decide +kernel, rfl, by decide +kernel, by decide +kernel⟩, by decide +kernel, rfl, rfl, rfl, rfl, rfl, by decide +kernel, fun _ _ _ _ _ _ us hl => match us, hl with | [_], _ => rfl⟩
theorem dc_D_is_in : DefChk D_is_in (top 2) (scL D_is_in.N (defScope (top 2))) := ⟨⟨rfl, rfl, rfl, by decide +kernel, rfl, by decide +kernel, by decide +kernel⟩, by decide +kernel, rfl, rfl, rfl, rfl, rfl, by decide +kernel, fun _ _ _ _ _ _ us hl => match us, hl with | [_, _, _], _ => rfl⟩
theorem dc_D_is_list : DefChk D_is_list (top 3) (scL D_is_list.N (defScope (top 3))) := ⟨⟨rfl, rfl, rfl, by decide +kernel, rfl, by decide +kernel, by decide +kernel⟩, by decide +kernel, rfl, rfl, rfl, rfl, rfl, by decide +kernel, fun _ _ _ _ _ _ us hl => match us, hl with | [_, _, _], _ => rfl⟩
theorem dc_D_is_word : DefChk D_is_word (top 12) (scL D_is_word.N (defScope (top 12))) := ⟨⟨rfl, rfl, rfl, by decide +kernel, rfl, by decide +kernel, by decide +kernel⟩, by decide +kernel, rfl, rfl, rfl, rfl, rfl, by decide +kernel, fun _ _ _ _ _ _ us hl => match us, hl with | [_], _ => rfl⟩
theorem dc_D_sum_of : DefChk D_sum_of (top 13) (scL D_sum_of.N (defScope (top 13))) := ⟨⟨rfl, rfl, rfl, by decide +kernel, rfl, by decide +kernel, by decide +kernel⟩, by decide +kernel, rfl, rfl, rfl, rfl, rfl, by decide +kernel, fun _ _ _ _ _ _ us hl => match us, hl with | [_, _], _ => rfl⟩
theorem dc_D_rest_of : DefChk D_rest_of (top 14) (scL D_rest_of.N (defScope (top 14))) := ⟨⟨rfl, rfl, rfl, by decide +kernel, rfl, by decide +kernel, by decide +kernel⟩, by decide +kernel, rfl, rfl, rfl, rfl, rfl, by decide +kernel, fun _ _ _ _ _ _ us hl => match us, hl with | [_, _], _ => rfl⟩
theorem dc_D_product_of : DefChk D_product_of (top 15) (scL D_product_of.N (defScope (top 15))) := ⟨⟨rfl, rfl, rfl, by decide +kernel, rfl, by decide +kernel, by decide +kernel⟩, by decide +kernel, rfl, rfl, rfl, rfl, rfl, by decide +kernel, fun _ _ _ _ _ _ us hl => match us, hl with | [_, _], _ => rfl⟩
theorem dc_D_common_of : DefChk D_common_of (top 16) (scL D_common_of.N (defScope (top 16))) := ⟨⟨rfl, rfl, rfl, by decide +kernel, rfl, by decide +kernel, by decide +kernel⟩, by decide +kernel, rfl, rfl, rfl, rfl, rfl, by decide +kernel, fun _ _ _ _ _ _ us hl => match us, hl with | [_, _], _ => rfl⟩
theorem dc_D_lesser_of : DefChk D_lesser_of (top 17) (scL D_lesser_of.N (defScope (top 17))) := ⟨⟨rfl, rfl, rfl, by decide +kernel, rfl, by decide +kernel, by decide +kernel⟩, by decide +kernel, rfl, rfl, rfl, rfl, rfl, by decide +kernel, fun _ _ _ _ _ _ us hl => match us, hl with | [_, _], _ => rfl⟩
theorem dc_D_is_register : DefChk D_is_register (top 25) (scL D_is_register.N (defScope (top 25))) := ⟨⟨rfl, rfl, rfl, by decide +kernel, rfl, by decide +kernel, by decide +kernel⟩, by decide +kernel, rfl, rfl, rfl, rfl, rfl, by decide +kernel, fun _ _ _ _ _ _ us hl => match us, hl with | [_], _ => rfl⟩
theorem dc_D_is_instruction_up_to : DefChk D_is_instruction_up_to (top 26) (scL D_is_instruction_up_to.N (defScope (top 26))) := ⟨⟨rfl, rfl, rfl, by decide +kernel, rfl, by decide +kernel, by decide +kernel⟩, by decide +kernel, rfl, rfl, rfl, rfl, rfl, by decide +kernel, fun _ _ _ _ _ _ us hl => match us, hl with | [_, _], _ => rfl⟩
theorem dc_D_need_program : DefChk D_need_program (top 27) (scL D_need_program.N (defScope (top 27))) := ⟨⟨rfl, rfl, rfl, by decide +kernel, rfl, by decide +kernel, by decide +kernel⟩, by decide +kernel, rfl, rfl, rfl, rfl, rfl, by decide +kernel, fun _ _ _ _ _ _ us hl => match us, hl with | [_], _ => rfl⟩
theorem dc_D_are_words : DefChk D_are_words (top 28) (scL D_are_words.N (defScope (top 28))) := ⟨⟨rfl, rfl, rfl, by decide +kernel, rfl, by decide +kernel, by decide +kernel⟩, by decide +kernel, rfl, rfl, rfl, rfl, rfl, by decide +kernel, fun _ _ _ _ _ _ us hl => match us, hl with | [_, _, _], _ => rfl⟩
theorem dc_D_need_state : DefChk D_need_state (top 29) (scL D_need_state.N (defScope (top 29))) := ⟨⟨rfl, rfl, rfl, by decide +kernel, rfl, by decide +kernel, by decide +kernel⟩, by decide +kernel, rfl, rfl, rfl, rfl, rfl, by decide +kernel, fun _ _ _ _ _ _ us hl => match us, hl with | [_], _ => rfl⟩
theorem dc_D_kind_in : DefChk D_kind_in (top 30) (scL D_kind_in.N (defScope (top 30))) := ⟨⟨rfl, rfl, rfl, by decide +kernel, rfl, by decide +kernel, by decide +kernel⟩, by decide +kernel, rfl, rfl, rfl, rfl, rfl, by decide +kernel, fun _ _ _ _ _ _ us hl => match us, hl with | [_], _ => rfl⟩
theorem dc_D_uses_of : DefChk D_uses_of (top 31) (scL D_uses_of.N (defScope (top 31))) := ⟨⟨rfl, rfl, rfl, by decide +kernel, rfl, by decide +kernel, by decide +kernel⟩, by decide +kernel, rfl, rfl, rfl, rfl, rfl, by decide +kernel, fun _ _ _ _ _ _ us hl => match us, hl with | [_], _ => rfl⟩
theorem dc_D_goal_of : DefChk D_goal_of (top 32) (scL D_goal_of.N (defScope (top 32))) := ⟨⟨rfl, rfl, rfl, by decide +kernel, rfl, by decide +kernel, by decide +kernel⟩, by decide +kernel, rfl, rfl, rfl, rfl, rfl, by decide +kernel, fun _ _ _ _ _ _ us hl => match us, hl with | [_], _ => rfl⟩
theorem dc_D_result_of : DefChk D_result_of (top 33) (scL D_result_of.N (defScope (top 33))) := ⟨⟨rfl, rfl, rfl, by decide +kernel, rfl, by decide +kernel, by decide +kernel⟩, by decide +kernel, rfl, rfl, rfl, rfl, rfl, by decide +kernel, fun _ _ _ _ _ _ us hl => match us, hl with | [_, _], _ => rfl⟩
theorem dc_D_cell_of : DefChk D_cell_of (top 34) (scL D_cell_of.N (defScope (top 34))) := ⟨⟨rfl, rfl, rfl, by decide +kernel, rfl, by decide +kernel, by decide +kernel⟩, by decide +kernel, rfl, rfl, rfl, rfl, rfl, by decide +kernel, fun _ _ _ _ _ _ us hl => match us, hl with | [_, _], _ => rfl⟩
theorem dc_D_changed : DefChk D_changed (top 37) (scL D_changed.N (defScope (top 37))) := ⟨⟨rfl, rfl, rfl, by decide +kernel, rfl, by decide +kernel, by decide +kernel⟩, by decide +kernel, rfl, rfl, rfl, rfl, rfl, by decide +kernel, fun _ _ _ _ _ _ us hl => match us, hl with | [_, _, _], _ => rfl⟩
theorem dc_D_step_in : DefChk D_step_in (top 38) (scL D_step_in.N (defScope (top 38))) := ⟨⟨rfl, rfl, rfl, by decide +kernel, rfl, by decide +kernel, by decide +kernel⟩, by decide +kernel, rfl, rfl, rfl, rfl, rfl, by decide +kernel, fun _ _ _ _ _ _ us hl => match us, hl with | [_, _, _], _ => rfl⟩
theorem dc_D_run_in : DefChk D_run_in (top 39) (scL D_run_in.N (defScope (top 39))) := ⟨⟨rfl, rfl, rfl, by decide +kernel, rfl, by decide +kernel, by decide +kernel⟩, by decide +kernel, rfl, rfl, rfl, rfl, rfl, by decide +kernel, fun _ _ _ _ _ _ us hl => match us, hl with | [_, _, _], _ => rfl⟩
theorem dc_D_stepped : DefChk D_stepped (top 40) (scL D_stepped.N (defScope (top 40))) := ⟨⟨rfl, rfl, rfl, by decide +kernel, rfl, by decide +kernel, by decide +kernel⟩, by decide +kernel, rfl, rfl, rfl, rfl, rfl, by decide +kernel, fun _ _ _ _ _ _ us hl => match us, hl with | [_, _, _], _ => rfl⟩
theorem dc_D_ran : DefChk D_ran (top 41) (scL D_ran.N (defScope (top 41))) := ⟨⟨rfl, rfl, rfl, by decide +kernel, rfl, by decide +kernel, by decide +kernel⟩, by decide +kernel, rfl, rfl, rfl, rfl, rfl, by decide +kernel, fun _ _ _ _ _ _ us hl => match us, hl with | [_, _, _], _ => rfl⟩
theorem dc_D_ended : DefChk D_ended (top 42) (scL D_ended.N (defScope (top 42))) := ⟨⟨rfl, rfl, rfl, by decide +kernel, rfl, by decide +kernel, by decide +kernel⟩, by decide +kernel, rfl, rfl, rfl, rfl, rfl, by decide +kernel, fun _ _ _ _ _ _ us hl => match us, hl with | [_, _], _ => rfl⟩
theorem dc_D_law_taken : DefChk D_law_taken (top 44) (scL D_law_taken.N (defScope (top 44))) := ⟨⟨rfl, rfl, rfl, by decide +kernel, rfl, by decide +kernel, by decide +kernel⟩, by decide +kernel, rfl, rfl, rfl, rfl, rfl, by decide +kernel, fun _ _ _ _ _ _ us hl => match us, hl with | [_, _], _ => rfl⟩
theorem dc_D_law_pick : DefChk D_law_pick (top 45) (scL D_law_pick.N (defScope (top 45))) := ⟨⟨rfl, rfl, rfl, by decide +kernel, rfl, by decide +kernel, by decide +kernel⟩, by decide +kernel, rfl, rfl, rfl, rfl, rfl, by decide +kernel, fun _ _ _ _ _ _ us hl => match us, hl with | [_, _], _ => rfl⟩
theorem dc_D_law_alike : DefChk D_law_alike (top 46) (scL D_law_alike.N (defScope (top 46))) := ⟨⟨rfl, rfl, rfl, by decide +kernel, rfl, by decide +kernel, by decide +kernel⟩, by decide +kernel, rfl, rfl, rfl, rfl, rfl, by decide +kernel, fun _ _ _ _ _ _ us hl => match us, hl with | [_, _], _ => rfl⟩
theorem dc_D_law_word : DefChk D_law_word (top 47) (scL D_law_word.N (defScope (top 47))) := ⟨⟨rfl, rfl, rfl, by decide +kernel, rfl, by decide +kernel, by decide +kernel⟩, by decide +kernel, rfl, rfl, rfl, rfl, rfl, by decide +kernel, fun _ _ _ _ _ _ us hl => match us, hl with | [_], _ => rfl⟩
theorem dc_D_law_instruction : DefChk D_law_instruction (top 48) (scL D_law_instruction.N (defScope (top 48))) := ⟨⟨rfl, rfl, rfl, by decide +kernel, rfl, by decide +kernel, by decide +kernel⟩, by decide +kernel, rfl, rfl, rfl, rfl, rfl, by decide +kernel, fun _ _ _ _ _ _ us hl => match us, hl with | [_, _], _ => rfl⟩
theorem dc_D_law_program : DefChk D_law_program (top 49) (scL D_law_program.N (defScope (top 49))) := ⟨⟨rfl, rfl, rfl, by decide +kernel, rfl, by decide +kernel, by decide +kernel⟩, by decide +kernel, rfl, rfl, rfl, rfl, rfl, by decide +kernel, fun _ _ _ _ _ _ us hl => match us, hl with | [_, _], _ => rfl⟩
theorem dc_D_law_state : DefChk D_law_state (top 50) (scL D_law_state.N (defScope (top 50))) := ⟨⟨rfl, rfl, rfl, by decide +kernel, rfl, by decide +kernel, by decide +kernel⟩, by decide +kernel, rfl, rfl, rfl, rfl, rfl, by decide +kernel, fun _ _ _ _ _ _ us hl => match us, hl with | [_], _ => rfl⟩
theorem dc_D_law_kind : DefChk D_law_kind (top 51) (scL D_law_kind.N (defScope (top 51))) := ⟨⟨rfl, rfl, rfl, by decide +kernel, rfl, by decide +kernel, by decide +kernel⟩, by decide +kernel, rfl, rfl, rfl, rfl, rfl, by decide +kernel, fun _ _ _ _ _ _ us hl => match us, hl with | [_], _ => rfl⟩
theorem dc_D_law_uses : DefChk D_law_uses (top 52) (scL D_law_uses.N (defScope (top 52))) := ⟨⟨rfl, rfl, rfl, by decide +kernel, rfl, by decide +kernel, by decide +kernel⟩, by decide +kernel, rfl, rfl, rfl, rfl, rfl, by decide +kernel, fun _ _ _ _ _ _ us hl => match us, hl with | [_], _ => rfl⟩
theorem dc_D_law_made_2 : DefChk D_law_made_2 (top 53) (scL D_law_made_2.N (defScope (top 53))) := ⟨⟨rfl, rfl, rfl, by decide +kernel, rfl, by decide +kernel, by decide +kernel⟩, by decide +kernel, rfl, rfl, rfl, rfl, rfl, by decide +kernel, fun _ _ _ _ _ _ us hl => match us, hl with | [_, _], _ => rfl⟩
theorem dc_D_law_plain : DefChk D_law_plain (top 54) (scL D_law_plain.N (defScope (top 54))) := ⟨⟨rfl, rfl, rfl, by decide +kernel, rfl, by decide +kernel, by decide +kernel⟩, by decide +kernel, rfl, rfl, rfl, rfl, rfl, by decide +kernel, fun _ _ _ _ _ _ us hl => match us, hl with | [_, _, _], _ => rfl⟩
def lsc_D_law_k05 : Sc := { scL D_law_k05.N (defScope (top 56)) with lamA := [(0, A_D_law_k05_lam0)] }
theorem dc_D_law_k05 : DefChk D_law_k05 (top 56) lsc_D_law_k05 := ⟨⟨rfl, rfl, rfl, by decide +kernel, rfl, by decide +kernel, by decide +kernel⟩, by decide +kernel, rfl, rfl, rfl, rfl, rfl, by decide +kernel, fun _ _ _ _ _ _ us hl => match us, hl with | [_], _ => rfl⟩
end MP

set_option linter.all false
set_option autoImplicit false
set_option Elab.async false
set_option maxRecDepth 100000
set_option maxHeartbeats 0
namespace MP
open PySem L2 PySem.Spec PyProof.Rows LamX NdefX
def fnames : List Str := [("is_integer" : Str), ("is_in" : Str), ("is_list" : Str), ("is_word" : Str), ("sum_of" : Str), ("rest_of" : Str), ("product_of" : Str), ("common_of" : Str), ("lesser_of" : Str), ("is_register" : Str), ("is_instruction_up_to" : Str), ("need_program" : Str), ("are_words" : Str), ("need_state" : Str), ("kind_in" : Str), ("uses_of" : Str), ("goal_of" : Str), ("result_of" : Str), ("cell_of" : Str), ("changed" : Str), ("step_in" : Str), ("run_in" : Str), ("stepped" : Str), ("ran" : Str), ("ended" : Str), ("_law_taken" : Str), ("_law_pick" : Str), ("_law_alike" : Str), ("_law_word" : Str), ("_law_instruction" : Str), ("_law_program" : Str), ("_law_state" : Str), ("_law_kind" : Str), ("_law_uses" : Str), ("_law_made" : Str), ("_law_plain" : Str), ("_law_told" : Str), ("law" : Str)]
abbrev PW : Program := PySem.Challenge.pw_stagebelt_k05_whole_plain
def enames : CsT := [(0, "BeltError", none), (1, "BadNumber", none), (3, "BadProgram", some "index"), (5, "BadState", none), (23, "TooLong", some "most")]
def isNs : List (Str × Nat) := []
def isFs : List (Nat × Str) := []
def caughts : List (Str × Nat) := [("TooLong", 23)]
def tups : List (Str × IV) := [("REGISTERS", G_REGISTERS), ("WORDS", G_WORDS), ("WORDS_OF", G_WORDS_OF), ("SUMS", G_SUMS), ("CELLS", G_CELLS), ("MOST_INSTRUCTIONS", G_MOST_INSTRUCTIONS), ("MOST_SHOWN", G_MOST_SHOWN), ("MOST_STEPS", G_MOST_STEPS)]
def bare : List Str := (enames.filter fun p => p.2.2.isNone).map (·.2.1)
def bN2 : List Str := bNames ++ [("super" : Str)]
def fa : List He.Fa := bN2.map .free ++ ((fnames ++ enames.map (·.2.1)).map .glo ++ bare.map .exc)
def fn : List He.DefD := [defD D_is_integer (top 1), defD D_is_in (top 2), defD D_is_list (top 3), defD D_is_word (top 12), defD D_sum_of (top 13), defD D_rest_of (top 14), defD D_product_of (top 15), defD D_common_of (top 16), defD D_lesser_of (top 17), defD D_is_register (top 25), defD D_is_instruction_up_to (top 26), defD D_need_program (top 27), defD D_are_words (top 28), defD D_need_state (top 29), defD D_kind_in (top 30), defD D_uses_of (top 31), defD D_goal_of (top 32), defD D_result_of (top 33), defD D_cell_of (top 34), defD D_changed (top 37), defD D_step_in (top 38), defD D_run_in (top 39), defD D_stepped (top 40), defD D_ran (top 41), defD D_ended (top 42), defD D_law_taken (top 44), defD D_law_pick (top 45), defD D_law_alike (top 46), defD D_law_word (top 47), defD D_law_instruction (top 48), defD D_law_program (top 49), defD D_law_state (top 50), defD D_law_kind (top 51), defD D_law_uses (top 52), defD D_law_made_2 (top 53), defD D_law_plain (top 54), ⟨("_law_told", none), "_law_told", "_law_told", defArgs (top 55), defBody (top 55), defScope (top 55), [], []⟩, defD D_law_k05 (top 56)]
def tf : List He.Defn := [("law", none)]
abbrev STEPS : Nat := 4000
abbrev LOOSE : List Str := "is_integer" :: "is_in" :: "is_list" :: "is_word" :: "sum_of" :: "rest_of" :: "product_of" :: "common_of" :: "lesser_of" :: "is_register" :: "is_instruction_up_to" :: "need_program" :: "are_words" :: "need_state" :: "kind_in" :: "uses_of" :: "goal_of" :: "result_of" :: "cell_of" :: "changed" :: "step_in" :: "run_in" :: "stepped" :: "ran" :: "ended" :: "_law_taken" :: "_law_pick" :: "_law_alike" :: "_law_word" :: "_law_instruction" :: "_law_program" :: "_law_state" :: "_law_kind" :: "_law_uses" :: "_law_made" :: "_law_plain" :: "_law_told" :: "BeltError" :: "BadNumber" :: "BadProgram" :: "BadState" :: "TooLong" :: "WORDS" :: "REGISTERS" :: "CELLS" :: "MOST_INSTRUCTIONS" :: "MOST_SHOWN" :: "SUMS" :: "WORDS_OF" :: "MOST_STEPS" :: []
def iniB (K : PySem.W.Frag) (p : Nat × Str × Option Str) : Bool := match p.2.2 with
  | some f => initB PW K (He.ga K p.2.1) f
  | none => true
def ex (K : PySem.W.Frag) : Bool := (excB enames isNs caughts isFs K && enames.all (iniB K)) && tups.all fun p => gloB K p.1 p.2
def gm (K : PySem.W.Frag) : Gm := ⟨K, tf.map fun p => ((He.cT K p).2, fun _ _ => "law.<locals>.<lambda>"), fun _ => none, xtOf K enames⟩
inductive DD : FnDef → Prop where
  | D_is_integer : DD D_is_integer
  | D_is_in : DD D_is_in
  | D_is_list : DD D_is_list
  | D_is_word : DD D_is_word
  | D_sum_of : DD D_sum_of
  | D_rest_of : DD D_rest_of
  | D_product_of : DD D_product_of
  | D_common_of : DD D_common_of
  | D_lesser_of : DD D_lesser_of
  | D_is_register : DD D_is_register
  | D_is_instruction_up_to : DD D_is_instruction_up_to
  | D_need_program : DD D_need_program
  | D_are_words : DD D_are_words
  | D_need_state : DD D_need_state
  | D_kind_in : DD D_kind_in
  | D_uses_of : DD D_uses_of
  | D_goal_of : DD D_goal_of
  | D_result_of : DD D_result_of
  | D_cell_of : DD D_cell_of
  | D_changed : DD D_changed
  | D_step_in : DD D_step_in
  | D_run_in : DD D_run_in
  | D_stepped : DD D_stepped
  | D_ran : DD D_ran
  | D_ended : DD D_ended
  | D_law_taken : DD D_law_taken
  | D_law_pick : DD D_law_pick
  | D_law_alike : DD D_law_alike
  | D_law_word : DD D_law_word
  | D_law_instruction : DD D_law_instruction
  | D_law_program : DD D_law_program
  | D_law_state : DD D_law_state
  | D_law_kind : DD D_law_kind
  | D_law_uses : DD D_law_uses
  | D_law_made_2 : DD D_law_made_2
  | D_law_plain : DD D_law_plain
  | D_law_k05 : DD D_law_k05
inductive LL : FnDef → LamA → Prop where
  | D_law_k05_lam0 : LL D_law_k05_lam0 A_D_law_k05_lam0
inductive WW (K : PySem.W.Frag) : FnDef → List Str → LamA → Addr → Prop where
  | D_law_told_k05_of0 : WW K D_law_told_k05_of0 (D_law_k05_lam0.N.drop (parLen A_D_law_k05_lam0)) A_D_law_k05_lam0 (He.ga K "_law_told")
section
variable {w : World} {K : PySem.W.Frag} {mg : Str → Option Value} {base h : Heap}
abbrev Says (w : World) (h : Heap) (K : PySem.W.Frag) : Prop := He.SaysX fa fn [] tf ex w h K
theorem free2_h (X : K.In h) (G : h.Ns mainGlobals mg) (c : Says w h K) : ∀ x ∈ bN2, mg x = none := fun x hx => He.free_ok X G (c.t.d.facts (f := .free x) (List.mem_append_left _ (List.mem_map_of_mem hx)))
theorem free_h (X : K.In h) (G : h.Ns mainGlobals mg) (c : Says w h K) : ∀ x ∈ bNames, mg x = none := fun x hx => free2_h X G c x (List.mem_append_left _ hx)
theorem glo_h (X : K.In h) (G : h.Ns mainGlobals mg) (c : Says w h K) {x : Str} (hx : x ∈ fnames ++ enames.map (·.2.1)) : mg x = some (.ref (He.ga K x)) := He.glo_ok X G (c.t.d.facts (f := .glo x) (List.mem_append_right _ (List.mem_append_left _ (List.mem_map_of_mem hx))))
theorem exc_h (c : Says w h K) : excB enames isNs caughts isFs K = true := (He.ba (He.ba c.more).1).1
theorem raise_h (X : K.In h) (G : h.Ns mainGlobals mg) (c : Says w h K) {k : Nat} {x : Str} (m : x ∈ bare) (m2 : x ∈ fnames ++ enames.map (·.2.1)) (l : enames.lookup k = some (x, none)) : RaiseOk (gm K) K mg k x :=
  raise_of (cs := enames) rfl l (glo_h X G c m2) (c.t.d.facts (f := .exc x) (List.mem_append_right _ (List.mem_append_right _ (List.mem_map_of_mem m))))
theorem raiseV_h (X : K.In h) (G : h.Ns mainGlobals mg) (c : Says w h K) {k : Nat} {x f : Str} (m : (k, x, some f) ∈ enames) (m2 : x ∈ fnames ++ enames.map (·.2.1)) (l : enames.lookup k = some (x, some f)) : RaiseVOk (gm K) PW w K mg base k x :=
  raiseV_of (C := He.ga K x) (fld := f) (List.all_eq_true.mp (He.ba (He.ba c.more).1).2 _ m) (by show xtOf K enames k = _; rw [xtOf, l]; rfl) (glo_h X G c m2) (free2_h X G c _ (by decide +kernel))
theorem catch_h (X : K.In h) (G : h.Ns mainGlobals mg) (c : Says w h K) {k : Nat} {x : Str} (m : (x, k) ∈ caughts) (l : x ∈ fnames ++ enames.map (·.2.1)) : CatchOk (gm K) K mg k x := catch_of (cs := enames) rfl (exc_h c) m (glo_h X G c l)
theorem glob_h (X : K.In h) (G : h.Ns mainGlobals mg) (c : Says w h K) {x : Str} {d : IV} (m : (x, d) ∈ tups) : GcOk (gm K) mg x d := gloB_ok (γ := gm K) X G (List.all_eq_true.mp (He.ba c.more).2 _ m)
theorem cls_h (X : K.In h) (G : h.Ns mainGlobals mg) (c : Says w h K) : ClsOk (gm K) K mg isNs isFs := cls_of (cs := enames) rfl (exc_h c) fun p hp => glo_h X G c (by revert p; decide +kernel)
theorem gl_REGISTERS (X : K.In h) (G : h.Ns mainGlobals mg) (c : Says w h K) : GcOk (gm K) mg "REGISTERS" G_REGISTERS := glob_h X G c (List.mem_of_getElem? (i := 0) rfl)
theorem gl_WORDS (X : K.In h) (G : h.Ns mainGlobals mg) (c : Says w h K) : GcOk (gm K) mg "WORDS" G_WORDS := glob_h X G c (List.mem_of_getElem? (i := 1) rfl)
theorem gl_WORDS_OF (X : K.In h) (G : h.Ns mainGlobals mg) (c : Says w h K) : GcOk (gm K) mg "WORDS_OF" G_WORDS_OF := glob_h X G c (List.mem_of_getElem? (i := 2) rfl)
theorem gl_SUMS (X : K.In h) (G : h.Ns mainGlobals mg) (c : Says w h K) : GcOk (gm K) mg "SUMS" G_SUMS := glob_h X G c (List.mem_of_getElem? (i := 3) rfl)
theorem gl_CELLS (X : K.In h) (G : h.Ns mainGlobals mg) (c : Says w h K) : GcOk (gm K) mg "CELLS" G_CELLS := glob_h X G c (List.mem_of_getElem? (i := 4) rfl)
theorem gl_MOST_INSTRUCTIONS (X : K.In h) (G : h.Ns mainGlobals mg) (c : Says w h K) : GcOk (gm K) mg "MOST_INSTRUCTIONS" G_MOST_INSTRUCTIONS := glob_h X G c (List.mem_of_getElem? (i := 5) rfl)
theorem gl_MOST_SHOWN (X : K.In h) (G : h.Ns mainGlobals mg) (c : Says w h K) : GcOk (gm K) mg "MOST_SHOWN" G_MOST_SHOWN := glob_h X G c (List.mem_of_getElem? (i := 6) rfl)
theorem gl_MOST_STEPS (X : K.In h) (G : h.Ns mainGlobals mg) (c : Says w h K) : GcOk (gm K) mg "MOST_STEPS" G_MOST_STEPS := glob_h X G c (List.mem_of_getElem? (i := 7) rfl)
theorem ra_BadNumber (X : K.In h) (G : h.Ns mainGlobals mg) (c : Says w h K) : RaiseOk (gm K) K mg 1 "BadNumber" := raise_h X G c (by decide +kernel) (by decide +kernel) (by decide +kernel)
theorem ra_BadState (X : K.In h) (G : h.Ns mainGlobals mg) (c : Says w h K) : RaiseOk (gm K) K mg 5 "BadState" := raise_h X G c (by decide +kernel) (by decide +kernel) (by decide +kernel)
theorem rv_BadProgram (X : K.In h) (G : h.Ns mainGlobals mg) (c : Says w h K) : RaiseVOk (gm K) PW w K mg base 3 "BadProgram" := raiseV_h (f := "index") X G c (by decide +kernel) (by decide +kernel) (by decide +kernel)
theorem rv_TooLong (X : K.In h) (G : h.Ns mainGlobals mg) (c : Says w h K) : RaiseVOk (gm K) PW w K mg base 23 "TooLong" := raiseV_h (f := "most") X G c (by decide +kernel) (by decide +kernel) (by decide +kernel)
theorem ca_TooLong (X : K.In h) (G : h.Ns mainGlobals mg) (c : Says w h K) : CatchOk (gm K) K mg 23 "TooLong" := catch_h X G c (by decide +kernel) (by decide +kernel)
theorem fd_D_is_integer (c : Says w h K) : ∃ fdat, FunD K D_is_integer.nm D_is_integer.nm (defArgs (top 1)) (defBody (top 1)) (defScope (top 1)) [] [] (He.ga K D_is_integer.nm) fdat := c.t.d.def_ 0 (d := defD D_is_integer (top 1)) rfl
theorem ok_D_is_integer {fu : Nat} (X : K.In h) (G : h.Ns mainGlobals mg) (c : Says w h K) {fdat : FuncData} (F : FunD K D_is_integer.nm D_is_integer.nm (defArgs (top 1)) (defBody (top 1)) (defScope (top 1)) [] [] (He.ga K D_is_integer.nm) fdat) : At K mg D_is_integer (He.ga K D_is_integer.nm) fdat ∧ ∀ n, Snd (gm K) PW w K mg base fu n DD LL (WW K) → FnOk PW w K mg base (L2.CX PW w) (n + 1) (He.ga K D_is_integer.nm) fdat (D_is_integer.N.take D_is_integer.np) (spI (gm K) (callM fu (n + 1)) D_is_integer) :=
  def_ok dc_D_is_integer rfl (free_h X G c) (glo_h X G c (by decide +kernel)) F (cls_h X G c).nil
    (fun Pd p => ⟨⟨True.intro, ⟨True.intro, True.intro⟩⟩, True.intro⟩) (.inl rfl)
theorem fd_D_is_in (c : Says w h K) : ∃ fdat, FunD K D_is_in.nm D_is_in.nm (defArgs (top 2)) (defBody (top 2)) (defScope (top 2)) [] [] (He.ga K D_is_in.nm) fdat := c.t.d.def_ 1 (d := defD D_is_in (top 2)) rfl
theorem ok_D_is_in {fu : Nat} (X : K.In h) (G : h.Ns mainGlobals mg) (c : Says w h K) {fdat : FuncData} (F : FunD K D_is_in.nm D_is_in.nm (defArgs (top 2)) (defBody (top 2)) (defScope (top 2)) [] [] (He.ga K D_is_in.nm) fdat) : At K mg D_is_in (He.ga K D_is_in.nm) fdat ∧ ∀ n, Snd (gm K) PW w K mg base fu n DD LL (WW K) → FnOk PW w K mg base (L2.CX PW w) (n + 1) (He.ga K D_is_in.nm) fdat (D_is_in.N.take D_is_in.np) (spI (gm K) (callM fu (n + 1)) D_is_in) :=
  def_ok dc_D_is_in rfl (free_h X G c) (glo_h X G c (by decide +kernel)) F (cls_h X G c).nil
    (fun Pd p => ⟨⟨⟨(p _ DD.D_is_integer), ⟨True.intro, True.intro⟩⟩, ⟨⟨True.intro, True.intro, True.intro⟩, True.intro⟩⟩, True.intro⟩) (.inl rfl)
theorem fd_D_is_list (c : Says w h K) : ∃ fdat, FunD K D_is_list.nm D_is_list.nm (defArgs (top 3)) (defBody (top 3)) (defScope (top 3)) [] [] (He.ga K D_is_list.nm) fdat := c.t.d.def_ 2 (d := defD D_is_list (top 3)) rfl
theorem ok_D_is_list {fu : Nat} (X : K.In h) (G : h.Ns mainGlobals mg) (c : Says w h K) {fdat : FuncData} (F : FunD K D_is_list.nm D_is_list.nm (defArgs (top 3)) (defBody (top 3)) (defScope (top 3)) [] [] (He.ga K D_is_list.nm) fdat) : At K mg D_is_list (He.ga K D_is_list.nm) fdat ∧ ∀ n, Snd (gm K) PW w K mg base fu n DD LL (WW K) → FnOk PW w K mg base (L2.CX PW w) (n + 1) (He.ga K D_is_list.nm) fdat (D_is_list.N.take D_is_list.np) (spI (gm K) (callM fu (n + 1)) D_is_list) :=
  def_ok dc_D_is_list rfl (free_h X G c) (glo_h X G c (by decide +kernel)) F (cls_h X G c).nil
    (fun Pd p => ⟨⟨True.intro, ⟨⟨True.intro, ⟨True.intro, True.intro⟩, True.intro⟩, True.intro⟩⟩, True.intro⟩) (.inl rfl)
theorem fd_D_is_word (c : Says w h K) : ∃ fdat, FunD K D_is_word.nm D_is_word.nm (defArgs (top 12)) (defBody (top 12)) (defScope (top 12)) [] [] (He.ga K D_is_word.nm) fdat := c.t.d.def_ 3 (d := defD D_is_word (top 12)) rfl
theorem ok_D_is_word {fu : Nat} (X : K.In h) (G : h.Ns mainGlobals mg) (c : Says w h K) {fdat : FuncData} (F : FunD K D_is_word.nm D_is_word.nm (defArgs (top 12)) (defBody (top 12)) (defScope (top 12)) [] [] (He.ga K D_is_word.nm) fdat) : At K mg D_is_word (He.ga K D_is_word.nm) fdat ∧ ∀ n, Snd (gm K) PW w K mg base fu n DD LL (WW K) → FnOk PW w K mg base (L2.CX PW w) (n + 1) (He.ga K D_is_word.nm) fdat (D_is_word.N.take D_is_word.np) (spI (gm K) (callM fu (n + 1)) D_is_word) :=
  def_ok dc_D_is_word rfl (free_h X G c) (glo_h X G c (by decide +kernel)) F (cls_h X G c).nil
    (fun Pd p => ⟨⟨(p _ DD.D_is_in), ⟨True.intro, ⟨True.intro, ⟨⟨(gl_WORDS X G c), True.intro⟩, True.intro⟩⟩⟩⟩, True.intro⟩) (.inl rfl)
theorem fd_D_sum_of (c : Says w h K) : ∃ fdat, FunD K D_sum_of.nm D_sum_of.nm (defArgs (top 13)) (defBody (top 13)) (defScope (top 13)) [] [] (He.ga K D_sum_of.nm) fdat := c.t.d.def_ 4 (d := defD D_sum_of (top 13)) rfl
theorem ok_D_sum_of {fu : Nat} (X : K.In h) (G : h.Ns mainGlobals mg) (c : Says w h K) {fdat : FuncData} (F : FunD K D_sum_of.nm D_sum_of.nm (defArgs (top 13)) (defBody (top 13)) (defScope (top 13)) [] [] (He.ga K D_sum_of.nm) fdat) : At K mg D_sum_of (He.ga K D_sum_of.nm) fdat ∧ ∀ n, Snd (gm K) PW w K mg base fu n DD LL (WW K) → FnOk PW w K mg base (L2.CX PW w) (n + 1) (He.ga K D_sum_of.nm) fdat (D_sum_of.N.take D_sum_of.np) (spI (gm K) (callM fu (n + 1)) D_sum_of) :=
  def_ok dc_D_sum_of rfl (free_h X G c) (glo_h X G c (by decide +kernel)) F (cls_h X G c).nil
    (fun Pd p => ⟨⟨⟨True.intro, True.intro⟩, (gl_WORDS X G c)⟩, True.intro⟩) (.inl rfl)
theorem fd_D_rest_of (c : Says w h K) : ∃ fdat, FunD K D_rest_of.nm D_rest_of.nm (defArgs (top 14)) (defBody (top 14)) (defScope (top 14)) [] [] (He.ga K D_rest_of.nm) fdat := c.t.d.def_ 5 (d := defD D_rest_of (top 14)) rfl
theorem ok_D_rest_of {fu : Nat} (X : K.In h) (G : h.Ns mainGlobals mg) (c : Says w h K) {fdat : FuncData} (F : FunD K D_rest_of.nm D_rest_of.nm (defArgs (top 14)) (defBody (top 14)) (defScope (top 14)) [] [] (He.ga K D_rest_of.nm) fdat) : At K mg D_rest_of (He.ga K D_rest_of.nm) fdat ∧ ∀ n, Snd (gm K) PW w K mg base fu n DD LL (WW K) → FnOk PW w K mg base (L2.CX PW w) (n + 1) (He.ga K D_rest_of.nm) fdat (D_rest_of.N.take D_rest_of.np) (spI (gm K) (callM fu (n + 1)) D_rest_of) :=
  def_ok dc_D_rest_of rfl (free_h X G c) (glo_h X G c (by decide +kernel)) F (cls_h X G c).nil
    (fun Pd p => ⟨⟨⟨True.intro, True.intro⟩, (gl_WORDS X G c)⟩, True.intro⟩) (.inl rfl)
theorem fd_D_product_of (c : Says w h K) : ∃ fdat, FunD K D_product_of.nm D_product_of.nm (defArgs (top 15)) (defBody (top 15)) (defScope (top 15)) [] [] (He.ga K D_product_of.nm) fdat := c.t.d.def_ 6 (d := defD D_product_of (top 15)) rfl
theorem ok_D_product_of {fu : Nat} (X : K.In h) (G : h.Ns mainGlobals mg) (c : Says w h K) {fdat : FuncData} (F : FunD K D_product_of.nm D_product_of.nm (defArgs (top 15)) (defBody (top 15)) (defScope (top 15)) [] [] (He.ga K D_product_of.nm) fdat) : At K mg D_product_of (He.ga K D_product_of.nm) fdat ∧ ∀ n, Snd (gm K) PW w K mg base fu n DD LL (WW K) → FnOk PW w K mg base (L2.CX PW w) (n + 1) (He.ga K D_product_of.nm) fdat (D_product_of.N.take D_product_of.np) (spI (gm K) (callM fu (n + 1)) D_product_of) :=
  def_ok dc_D_product_of rfl (free_h X G c) (glo_h X G c (by decide +kernel)) F (cls_h X G c).nil
    (fun Pd p => ⟨⟨⟨True.intro, True.intro⟩, (gl_WORDS X G c)⟩, True.intro⟩) (.inl rfl)
theorem fd_D_common_of (c : Says w h K) : ∃ fdat, FunD K D_common_of.nm D_common_of.nm (defArgs (top 16)) (defBody (top 16)) (defScope (top 16)) [] [] (He.ga K D_common_of.nm) fdat := c.t.d.def_ 7 (d := defD D_common_of (top 16)) rfl
theorem ok_D_common_of {fu : Nat} (X : K.In h) (G : h.Ns mainGlobals mg) (c : Says w h K) {fdat : FuncData} (F : FunD K D_common_of.nm D_common_of.nm (defArgs (top 16)) (defBody (top 16)) (defScope (top 16)) [] [] (He.ga K D_common_of.nm) fdat) : At K mg D_common_of (He.ga K D_common_of.nm) fdat ∧ ∀ n, Snd (gm K) PW w K mg base fu n DD LL (WW K) → FnOk PW w K mg base (L2.CX PW w) (n + 1) (He.ga K D_common_of.nm) fdat (D_common_of.N.take D_common_of.np) (spI (gm K) (callM fu (n + 1)) D_common_of) :=
  def_ok dc_D_common_of rfl (free_h X G c) (glo_h X G c (by decide +kernel)) F (cls_h X G c).nil
    (fun Pd p => ⟨⟨⟨True.intro, ⟨True.intro, True.intro⟩⟩, ⟨True.intro, ⟨True.intro, True.intro⟩⟩⟩, ⟨⟨⟨⟨True.intro, True.intro⟩, ⟨⟨True.intro, True.intro⟩, True.intro⟩⟩, ⟨⟨⟨⟨⟨True.intro, True.intro⟩, True.intro⟩, ⟨⟨⟨True.intro, True.intro⟩, True.intro⟩, True.intro⟩⟩, ⟨True.intro, True.intro⟩, True.intro⟩, ⟨⟨⟨True.intro, ⟨True.intro, ⟨True.intro, True.intro⟩⟩⟩, ⟨⟨True.intro, True.intro⟩, ⟨⟨True.intro, True.intro⟩, ⟨⟨True.intro, True.intro⟩, True.intro⟩⟩⟩⟩, True.intro⟩⟩⟩, ⟨True.intro, True.intro⟩⟩⟩) (.inl rfl)
theorem fd_D_lesser_of (c : Says w h K) : ∃ fdat, FunD K D_lesser_of.nm D_lesser_of.nm (defArgs (top 17)) (defBody (top 17)) (defScope (top 17)) [] [] (He.ga K D_lesser_of.nm) fdat := c.t.d.def_ 8 (d := defD D_lesser_of (top 17)) rfl
theorem ok_D_lesser_of {fu : Nat} (X : K.In h) (G : h.Ns mainGlobals mg) (c : Says w h K) {fdat : FuncData} (F : FunD K D_lesser_of.nm D_lesser_of.nm (defArgs (top 17)) (defBody (top 17)) (defScope (top 17)) [] [] (He.ga K D_lesser_of.nm) fdat) : At K mg D_lesser_of (He.ga K D_lesser_of.nm) fdat ∧ ∀ n, Snd (gm K) PW w K mg base fu n DD LL (WW K) → FnOk PW w K mg base (L2.CX PW w) (n + 1) (He.ga K D_lesser_of.nm) fdat (D_lesser_of.N.take D_lesser_of.np) (spI (gm K) (callM fu (n + 1)) D_lesser_of) :=
  def_ok dc_D_lesser_of rfl (free_h X G c) (glo_h X G c (by decide +kernel)) F (cls_h X G c).nil
    (fun Pd p => ⟨⟨⟨True.intro, True.intro⟩, True.intro, True.intro⟩, True.intro⟩) (.inl rfl)
theorem fd_D_is_register (c : Says w h K) : ∃ fdat, FunD K D_is_register.nm D_is_register.nm (defArgs (top 25)) (defBody (top 25)) (defScope (top 25)) [] [] (He.ga K D_is_register.nm) fdat := c.t.d.def_ 9 (d := defD D_is_register (top 25)) rfl
theorem ok_D_is_register {fu : Nat} (X : K.In h) (G : h.Ns mainGlobals mg) (c : Says w h K) {fdat : FuncData} (F : FunD K D_is_register.nm D_is_register.nm (defArgs (top 25)) (defBody (top 25)) (defScope (top 25)) [] [] (He.ga K D_is_register.nm) fdat) : At K mg D_is_register (He.ga K D_is_register.nm) fdat ∧ ∀ n, Snd (gm K) PW w K mg base fu n DD LL (WW K) → FnOk PW w K mg base (L2.CX PW w) (n + 1) (He.ga K D_is_register.nm) fdat (D_is_register.N.take D_is_register.np) (spI (gm K) (callM fu (n + 1)) D_is_register) :=
  def_ok dc_D_is_register rfl (free_h X G c) (glo_h X G c (by decide +kernel)) F (cls_h X G c).nil
    (fun Pd p => ⟨⟨(p _ DD.D_is_in), ⟨True.intro, ⟨True.intro, ⟨⟨(gl_REGISTERS X G c), True.intro⟩, True.intro⟩⟩⟩⟩, True.intro⟩) (.inl rfl)
theorem fd_D_is_instruction_up_to (c : Says w h K) : ∃ fdat, FunD K D_is_instruction_up_to.nm D_is_instruction_up_to.nm (defArgs (top 26)) (defBody (top 26)) (defScope (top 26)) [] [] (He.ga K D_is_instruction_up_to.nm) fdat := c.t.d.def_ 10 (d := defD D_is_instruction_up_to (top 26)) rfl
theorem ok_D_is_instruction_up_to {fu : Nat} (X : K.In h) (G : h.Ns mainGlobals mg) (c : Says w h K) {fdat : FuncData} (F : FunD K D_is_instruction_up_to.nm D_is_instruction_up_to.nm (defArgs (top 26)) (defBody (top 26)) (defScope (top 26)) [] [] (He.ga K D_is_instruction_up_to.nm) fdat) : At K mg D_is_instruction_up_to (He.ga K D_is_instruction_up_to.nm) fdat ∧ ∀ n, Snd (gm K) PW w K mg base fu n DD LL (WW K) → FnOk PW w K mg base (L2.CX PW w) (n + 1) (He.ga K D_is_instruction_up_to.nm) fdat (D_is_instruction_up_to.N.take D_is_instruction_up_to.np) (spI (gm K) (callM fu (n + 1)) D_is_instruction_up_to) :=
  def_ok dc_D_is_instruction_up_to rfl (free_h X G c) (glo_h X G c (by decide +kernel)) F (cls_h X G c).nil
    (fun Pd p => ⟨⟨⟨⟨(p _ DD.D_is_list), ⟨True.intro, ⟨True.intro, ⟨True.intro, True.intro⟩⟩⟩⟩, ⟨⟨True.intro, True.intro⟩, ⟨⟨⟨True.intro, True.intro⟩, (gl_WORDS_OF X G c)⟩, True.intro⟩⟩⟩, ⟨True.intro, True.intro⟩, True.intro⟩, ⟨⟨⟨True.intro, ⟨True.intro, True.intro⟩⟩, ⟨⟨True.intro, True.intro⟩, ⟨⟨True.intro, True.intro, True.intro⟩, True.intro⟩⟩⟩, ⟨⟨⟨True.intro, True.intro⟩, ⟨⟨True.intro, True.intro⟩, True.intro⟩, True.intro⟩, ⟨⟨⟨True.intro, True.intro⟩, ⟨⟨⟨⟨True.intro, True.intro⟩, True.intro⟩, ⟨⟨(p _ DD.D_is_register), ⟨⟨True.intro, True.intro⟩, True.intro⟩⟩, ⟨⟨(p _ DD.D_is_word), ⟨⟨True.intro, True.intro⟩, True.intro⟩⟩, True.intro⟩⟩⟩, True.intro⟩, True.intro⟩, ⟨⟨⟨⟨True.intro, (gl_SUMS X G c)⟩, ⟨⟨True.intro, True.intro⟩, True.intro⟩⟩, ⟨⟨⟨⟨True.intro, True.intro⟩, True.intro⟩, ⟨⟨⟨True.intro, True.intro, True.intro, ⟨(p _ DD.D_is_register), ⟨True.intro, True.intro⟩⟩⟩, True.intro⟩, True.intro⟩⟩, True.intro⟩, True.intro⟩, ⟨⟨⟨True.intro, ⟨True.intro, ⟨True.intro, True.intro⟩⟩⟩, ⟨⟨⟨⟨True.intro, True.intro⟩, True.intro⟩, ⟨⟨(p _ DD.D_is_register), ⟨⟨True.intro, True.intro⟩, True.intro⟩⟩, ⟨⟨(p _ DD.D_is_register), ⟨⟨True.intro, True.intro⟩, True.intro⟩⟩, ⟨⟨(p _ DD.D_is_in), ⟨⟨True.intro, True.intro⟩, ⟨True.intro, ⟨⟨(gl_CELLS X G c), True.intro⟩, True.intro⟩⟩⟩⟩, True.intro⟩⟩⟩⟩, True.intro⟩, True.intro⟩, ⟨⟨⟨True.intro, True.intro⟩, ⟨⟨⟨⟨True.intro, True.intro⟩, True.intro⟩, ⟨⟨(p _ DD.D_is_register), ⟨⟨True.intro, True.intro⟩, True.intro⟩⟩, ⟨⟨(p _ DD.D_is_in), ⟨⟨True.intro, True.intro⟩, ⟨True.intro, ⟨True.intro, True.intro⟩⟩⟩⟩, True.intro⟩⟩⟩, True.intro⟩, True.intro⟩, ⟨⟨⟨True.intro, True.intro⟩, ⟨⟨⟨⟨True.intro, True.intro⟩, True.intro⟩, ⟨⟨(p _ DD.D_is_in), ⟨⟨True.intro, True.intro⟩, ⟨True.intro, ⟨True.intro, True.intro⟩⟩⟩⟩, True.intro⟩⟩, True.intro⟩, True.intro⟩, ⟨⟨⟨⟨True.intro, True.intro⟩, True.intro⟩, ⟨⟨(p _ DD.D_is_register), ⟨⟨True.intro, True.intro⟩, True.intro⟩⟩, True.intro⟩⟩, True.intro⟩⟩⟩⟩⟩⟩⟩⟩⟩) (.inl rfl)
theorem fd_D_need_program (c : Says w h K) : ∃ fdat, FunD K D_need_program.nm D_need_program.nm (defArgs (top 27)) (defBody (top 27)) (defScope (top 27)) [] [] (He.ga K D_need_program.nm) fdat := c.t.d.def_ 11 (d := defD D_need_program (top 27)) rfl
theorem ok_D_need_program {fu : Nat} (X : K.In h) (G : h.Ns mainGlobals mg) (c : Says w h K) {fdat : FuncData} (F : FunD K D_need_program.nm D_need_program.nm (defArgs (top 27)) (defBody (top 27)) (defScope (top 27)) [] [] (He.ga K D_need_program.nm) fdat) : At K mg D_need_program (He.ga K D_need_program.nm) fdat ∧ ∀ n, Snd (gm K) PW w K mg base fu n DD LL (WW K) → FnOk PW w K mg base (L2.CX PW w) (n + 1) (He.ga K D_need_program.nm) fdat (D_need_program.N.take D_need_program.np) (spI (gm K) (callM fu (n + 1)) D_need_program) :=
  def_ok dc_D_need_program rfl (free_h X G c) (glo_h X G c (by decide +kernel)) F (cls_h X G c).nil
    (fun Pd p => ⟨⟨⟨(p _ DD.D_is_list), ⟨True.intro, ⟨True.intro, ⟨(gl_MOST_INSTRUCTIONS X G c), True.intro⟩⟩⟩⟩, ⟨⟨(rv_BadProgram X G c), True.intro, True.intro⟩, True.intro⟩, True.intro⟩, ⟨⟨True.intro, ⟨True.intro, True.intro⟩, ⟨⟨⟨(p _ DD.D_is_instruction_up_to), ⟨⟨True.intro, True.intro⟩, ⟨⟨True.intro, True.intro⟩, True.intro⟩⟩⟩, ⟨⟨(rv_BadProgram X G c), True.intro, True.intro⟩, True.intro⟩, True.intro⟩, True.intro⟩⟩, True.intro⟩⟩) (.inl rfl)
theorem fd_D_are_words (c : Says w h K) : ∃ fdat, FunD K D_are_words.nm D_are_words.nm (defArgs (top 28)) (defBody (top 28)) (defScope (top 28)) [] [] (He.ga K D_are_words.nm) fdat := c.t.d.def_ 12 (d := defD D_are_words (top 28)) rfl
theorem ok_D_are_words {fu : Nat} (X : K.In h) (G : h.Ns mainGlobals mg) (c : Says w h K) {fdat : FuncData} (F : FunD K D_are_words.nm D_are_words.nm (defArgs (top 28)) (defBody (top 28)) (defScope (top 28)) [] [] (He.ga K D_are_words.nm) fdat) : At K mg D_are_words (He.ga K D_are_words.nm) fdat ∧ ∀ n, Snd (gm K) PW w K mg base fu n DD LL (WW K) → FnOk PW w K mg base (L2.CX PW w) (n + 1) (He.ga K D_are_words.nm) fdat (D_are_words.N.take D_are_words.np) (spI (gm K) (callM fu (n + 1)) D_are_words) :=
  def_ok dc_D_are_words rfl (free_h X G c) (glo_h X G c (by decide +kernel)) F (cls_h X G c).nil
    (fun Pd p => ⟨⟨⟨(p _ DD.D_is_list), ⟨True.intro, ⟨True.intro, ⟨True.intro, True.intro⟩⟩⟩⟩, ⟨⟨⟨True.intro, True.intro, True.intro, ⟨(p _ DD.D_is_word), ⟨True.intro, True.intro⟩⟩⟩, True.intro⟩, True.intro⟩⟩, True.intro⟩) (.inl rfl)
theorem fd_D_need_state (c : Says w h K) : ∃ fdat, FunD K D_need_state.nm D_need_state.nm (defArgs (top 29)) (defBody (top 29)) (defScope (top 29)) [] [] (He.ga K D_need_state.nm) fdat := c.t.d.def_ 13 (d := defD D_need_state (top 29)) rfl
theorem ok_D_need_state {fu : Nat} (X : K.In h) (G : h.Ns mainGlobals mg) (c : Says w h K) {fdat : FuncData} (F : FunD K D_need_state.nm D_need_state.nm (defArgs (top 29)) (defBody (top 29)) (defScope (top 29)) [] [] (He.ga K D_need_state.nm) fdat) : At K mg D_need_state (He.ga K D_need_state.nm) fdat ∧ ∀ n, Snd (gm K) PW w K mg base fu n DD LL (WW K) → FnOk PW w K mg base (L2.CX PW w) (n + 1) (He.ga K D_need_state.nm) fdat (D_need_state.N.take D_need_state.np) (spI (gm K) (callM fu (n + 1)) D_need_state) :=
  def_ok dc_D_need_state rfl (free_h X G c) (glo_h X G c (by decide +kernel)) F (cls_h X G c).nil
    (fun Pd p => ⟨⟨⟨⟨(p _ DD.D_is_list), ⟨True.intro, ⟨True.intro, ⟨True.intro, True.intro⟩⟩⟩⟩, ⟨⟨(p _ DD.D_are_words), ⟨⟨True.intro, True.intro⟩, ⟨(gl_REGISTERS X G c), ⟨(gl_REGISTERS X G c), True.intro⟩⟩⟩⟩, True.intro⟩⟩, ⟨⟨(ra_BadState X G c), True.intro⟩, True.intro⟩, True.intro⟩, ⟨⟨⟨⟨(p _ DD.D_are_words), ⟨⟨True.intro, True.intro⟩, ⟨(gl_CELLS X G c), ⟨(gl_CELLS X G c), True.intro⟩⟩⟩⟩, ⟨⟨(p _ DD.D_are_words), ⟨⟨True.intro, True.intro⟩, ⟨True.intro, ⟨(gl_MOST_SHOWN X G c), True.intro⟩⟩⟩⟩, True.intro⟩⟩, ⟨⟨(ra_BadState X G c), True.intro⟩, True.intro⟩, True.intro⟩, True.intro⟩⟩) (.inl rfl)
theorem fd_D_kind_in (c : Says w h K) : ∃ fdat, FunD K D_kind_in.nm D_kind_in.nm (defArgs (top 30)) (defBody (top 30)) (defScope (top 30)) [] [] (He.ga K D_kind_in.nm) fdat := c.t.d.def_ 14 (d := defD D_kind_in (top 30)) rfl
theorem ok_D_kind_in {fu : Nat} (X : K.In h) (G : h.Ns mainGlobals mg) (c : Says w h K) {fdat : FuncData} (F : FunD K D_kind_in.nm D_kind_in.nm (defArgs (top 30)) (defBody (top 30)) (defScope (top 30)) [] [] (He.ga K D_kind_in.nm) fdat) : At K mg D_kind_in (He.ga K D_kind_in.nm) fdat ∧ ∀ n, Snd (gm K) PW w K mg base fu n DD LL (WW K) → FnOk PW w K mg base (L2.CX PW w) (n + 1) (He.ga K D_kind_in.nm) fdat (D_kind_in.N.take D_kind_in.np) (spI (gm K) (callM fu (n + 1)) D_kind_in) :=
  def_ok dc_D_kind_in rfl (free_h X G c) (glo_h X G c (by decide +kernel)) F (cls_h X G c).nil
    (fun Pd p => ⟨⟨⟨⟨True.intro, True.intro⟩, (gl_SUMS X G c)⟩, True.intro, ⟨True.intro, True.intro⟩⟩, True.intro⟩) (.inl rfl)
theorem fd_D_uses_of (c : Says w h K) : ∃ fdat, FunD K D_uses_of.nm D_uses_of.nm (defArgs (top 31)) (defBody (top 31)) (defScope (top 31)) [] [] (He.ga K D_uses_of.nm) fdat := c.t.d.def_ 15 (d := defD D_uses_of (top 31)) rfl
theorem ok_D_uses_of {fu : Nat} (X : K.In h) (G : h.Ns mainGlobals mg) (c : Says w h K) {fdat : FuncData} (F : FunD K D_uses_of.nm D_uses_of.nm (defArgs (top 31)) (defBody (top 31)) (defScope (top 31)) [] [] (He.ga K D_uses_of.nm) fdat) : At K mg D_uses_of (He.ga K D_uses_of.nm) fdat ∧ ∀ n, Snd (gm K) PW w K mg base fu n DD LL (WW K) → FnOk PW w K mg base (L2.CX PW w) (n + 1) (He.ga K D_uses_of.nm) fdat (D_uses_of.N.take D_uses_of.np) (spI (gm K) (callM fu (n + 1)) D_uses_of) :=
  def_ok dc_D_uses_of rfl (free_h X G c) (glo_h X G c (by decide +kernel)) F (cls_h X G c).nil
    (fun Pd p => ⟨⟨True.intro, ⟨(p _ DD.D_kind_in), ⟨True.intro, True.intro⟩⟩⟩, ⟨⟨⟨True.intro, ⟨True.intro, ⟨True.intro, True.intro⟩⟩⟩, ⟨⟨⟨True.intro, ⟨⟨True.intro, True.intro⟩, True.intro⟩⟩, ⟨⟨True.intro, ⟨⟨True.intro, True.intro⟩, True.intro⟩⟩, True.intro⟩⟩, True.intro⟩, True.intro⟩, ⟨⟨⟨True.intro, True.intro⟩, ⟨⟨⟨True.intro, ⟨⟨True.intro, True.intro⟩, True.intro⟩⟩, True.intro⟩, True.intro⟩, True.intro⟩, ⟨⟨⟨True.intro, True.intro⟩, ⟨⟨⟨True.intro, ⟨⟨True.intro, True.intro⟩, True.intro⟩⟩, ⟨⟨True.intro, ⟨⟨True.intro, True.intro⟩, True.intro⟩⟩, True.intro⟩⟩, True.intro⟩, True.intro⟩, ⟨⟨⟨True.intro, ⟨True.intro, ⟨True.intro, True.intro⟩⟩⟩, ⟨⟨⟨True.intro, ⟨⟨True.intro, True.intro⟩, True.intro⟩⟩, True.intro⟩, True.intro⟩, True.intro⟩, ⟨True.intro, True.intro⟩⟩⟩⟩⟩⟩) (.inl rfl)
theorem fd_D_goal_of (c : Says w h K) : ∃ fdat, FunD K D_goal_of.nm D_goal_of.nm (defArgs (top 32)) (defBody (top 32)) (defScope (top 32)) [] [] (He.ga K D_goal_of.nm) fdat := c.t.d.def_ 16 (d := defD D_goal_of (top 32)) rfl
theorem ok_D_goal_of {fu : Nat} (X : K.In h) (G : h.Ns mainGlobals mg) (c : Says w h K) {fdat : FuncData} (F : FunD K D_goal_of.nm D_goal_of.nm (defArgs (top 32)) (defBody (top 32)) (defScope (top 32)) [] [] (He.ga K D_goal_of.nm) fdat) : At K mg D_goal_of (He.ga K D_goal_of.nm) fdat ∧ ∀ n, Snd (gm K) PW w K mg base fu n DD LL (WW K) → FnOk PW w K mg base (L2.CX PW w) (n + 1) (He.ga K D_goal_of.nm) fdat (D_goal_of.N.take D_goal_of.np) (spI (gm K) (callM fu (n + 1)) D_goal_of) :=
  def_ok dc_D_goal_of rfl (free_h X G c) (glo_h X G c (by decide +kernel)) F (cls_h X G c).nil
    (fun Pd p => ⟨⟨True.intro, True.intro⟩, True.intro⟩) (.inl rfl)
theorem fd_D_result_of (c : Says w h K) : ∃ fdat, FunD K D_result_of.nm D_result_of.nm (defArgs (top 33)) (defBody (top 33)) (defScope (top 33)) [] [] (He.ga K D_result_of.nm) fdat := c.t.d.def_ 17 (d := defD D_result_of (top 33)) rfl
theorem ok_D_result_of {fu : Nat} (X : K.In h) (G : h.Ns mainGlobals mg) (c : Says w h K) {fdat : FuncData} (F : FunD K D_result_of.nm D_result_of.nm (defArgs (top 33)) (defBody (top 33)) (defScope (top 33)) [] [] (He.ga K D_result_of.nm) fdat) : At K mg D_result_of (He.ga K D_result_of.nm) fdat ∧ ∀ n, Snd (gm K) PW w K mg base fu n DD LL (WW K) → FnOk PW w K mg base (L2.CX PW w) (n + 1) (He.ga K D_result_of.nm) fdat (D_result_of.N.take D_result_of.np) (spI (gm K) (callM fu (n + 1)) D_result_of) :=
  def_ok dc_D_result_of rfl (free_h X G c) (glo_h X G c (by decide +kernel)) F (cls_h X G c).nil
    (fun Pd p => ⟨⟨True.intro, ⟨True.intro, True.intro⟩⟩, ⟨⟨⟨True.intro, True.intro⟩, ⟨⟨True.intro, True.intro⟩, True.intro⟩, True.intro⟩, ⟨⟨⟨True.intro, True.intro⟩, ⟨⟨(p _ DD.D_sum_of), ⟨⟨True.intro, True.intro⟩, ⟨⟨True.intro, True.intro⟩, True.intro⟩⟩⟩, True.intro⟩, True.intro⟩, ⟨⟨⟨True.intro, True.intro⟩, ⟨⟨(p _ DD.D_rest_of), ⟨⟨True.intro, True.intro⟩, ⟨⟨True.intro, True.intro⟩, True.intro⟩⟩⟩, True.intro⟩, True.intro⟩, ⟨⟨⟨True.intro, True.intro⟩, ⟨⟨(p _ DD.D_common_of), ⟨⟨True.intro, True.intro⟩, ⟨⟨True.intro, True.intro⟩, True.intro⟩⟩⟩, True.intro⟩, True.intro⟩, ⟨⟨⟨True.intro, True.intro⟩, ⟨⟨(p _ DD.D_lesser_of), ⟨⟨True.intro, True.intro⟩, ⟨⟨True.intro, True.intro⟩, True.intro⟩⟩⟩, True.intro⟩, True.intro⟩, ⟨⟨(p _ DD.D_product_of), ⟨⟨True.intro, True.intro⟩, ⟨⟨True.intro, True.intro⟩, True.intro⟩⟩⟩, True.intro⟩⟩⟩⟩⟩⟩⟩) (.inl rfl)
theorem fd_D_cell_of (c : Says w h K) : ∃ fdat, FunD K D_cell_of.nm D_cell_of.nm (defArgs (top 34)) (defBody (top 34)) (defScope (top 34)) [] [] (He.ga K D_cell_of.nm) fdat := c.t.d.def_ 18 (d := defD D_cell_of (top 34)) rfl
theorem ok_D_cell_of {fu : Nat} (X : K.In h) (G : h.Ns mainGlobals mg) (c : Says w h K) {fdat : FuncData} (F : FunD K D_cell_of.nm D_cell_of.nm (defArgs (top 34)) (defBody (top 34)) (defScope (top 34)) [] [] (He.ga K D_cell_of.nm) fdat) : At K mg D_cell_of (He.ga K D_cell_of.nm) fdat ∧ ∀ n, Snd (gm K) PW w K mg base fu n DD LL (WW K) → FnOk PW w K mg base (L2.CX PW w) (n + 1) (He.ga K D_cell_of.nm) fdat (D_cell_of.N.take D_cell_of.np) (spI (gm K) (callM fu (n + 1)) D_cell_of) :=
  def_ok dc_D_cell_of rfl (free_h X G c) (glo_h X G c (by decide +kernel)) F (cls_h X G c).nil
    (fun Pd p => ⟨⟨⟨True.intro, ⟨True.intro, True.intro⟩⟩, (gl_CELLS X G c)⟩, True.intro⟩) (.inl rfl)
theorem fd_D_changed (c : Says w h K) : ∃ fdat, FunD K D_changed.nm D_changed.nm (defArgs (top 37)) (defBody (top 37)) (defScope (top 37)) [] [] (He.ga K D_changed.nm) fdat := c.t.d.def_ 19 (d := defD D_changed (top 37)) rfl
theorem ok_D_changed {fu : Nat} (X : K.In h) (G : h.Ns mainGlobals mg) (c : Says w h K) {fdat : FuncData} (F : FunD K D_changed.nm D_changed.nm (defArgs (top 37)) (defBody (top 37)) (defScope (top 37)) [] [] (He.ga K D_changed.nm) fdat) : At K mg D_changed (He.ga K D_changed.nm) fdat ∧ ∀ n, Snd (gm K) PW w K mg base fu n DD LL (WW K) → FnOk PW w K mg base (L2.CX PW w) (n + 1) (He.ga K D_changed.nm) fdat (D_changed.N.take D_changed.np) (spI (gm K) (callM fu (n + 1)) D_changed) :=
  def_ok dc_D_changed rfl (free_h X G c) (glo_h X G c (by decide +kernel)) F (cls_h X G c).nil
    (fun Pd p => ⟨⟨⟨⟨True.intro, True.intro, True.intro⟩, ⟨True.intro, True.intro⟩⟩, ⟨True.intro, ⟨True.intro, True.intro⟩, True.intro⟩⟩, True.intro⟩) (.inl rfl)
theorem fd_D_step_in (c : Says w h K) : ∃ fdat, FunD K D_step_in.nm D_step_in.nm (defArgs (top 38)) (defBody (top 38)) (defScope (top 38)) [] [] (He.ga K D_step_in.nm) fdat := c.t.d.def_ 20 (d := defD D_step_in (top 38)) rfl
theorem ok_D_step_in {fu : Nat} (X : K.In h) (G : h.Ns mainGlobals mg) (c : Says w h K) {fdat : FuncData} (F : FunD K D_step_in.nm D_step_in.nm (defArgs (top 38)) (defBody (top 38)) (defScope (top 38)) [] [] (He.ga K D_step_in.nm) fdat) : At K mg D_step_in (He.ga K D_step_in.nm) fdat ∧ ∀ n, Snd (gm K) PW w K mg base fu n DD LL (WW K) → FnOk PW w K mg base (L2.CX PW w) (n + 1) (He.ga K D_step_in.nm) fdat (D_step_in.N.take D_step_in.np) (spI (gm K) (callM fu (n + 1)) D_step_in) :=
  def_ok dc_D_step_in rfl (free_h X G c) (glo_h X G c (by decide +kernel)) F (cls_h X G c).nil
    (fun Pd p => ⟨⟨⟨True.intro, ⟨⟨True.intro, ⟨True.intro, ⟨True.intro, True.intro⟩⟩⟩, True.intro⟩⟩, ⟨⟨True.intro, True.intro⟩, ⟨True.intro, True.intro⟩⟩⟩, ⟨⟨⟨True.intro, ⟨True.intro, True.intro⟩⟩, ⟨⟨(p _ DD.D_kind_in), ⟨True.intro, True.intro⟩⟩, ⟨⟨⟨True.intro, ⟨True.intro, True.intro⟩⟩, ⟨(p _ DD.D_uses_of), ⟨True.intro, True.intro⟩⟩, True.intro, ⟨True.intro, True.intro⟩⟩, True.intro⟩⟩⟩, ⟨⟨⟨True.intro, ⟨True.intro, ⟨True.intro, ⟨True.intro, True.intro⟩⟩⟩⟩, ⟨⟨True.intro, ⟨(p _ DD.D_changed), ⟨True.intro, ⟨⟨True.intro, True.intro⟩, ⟨⟨(p _ DD.D_result_of), ⟨True.intro, ⟨True.intro, True.intro⟩⟩⟩, True.intro⟩⟩⟩⟩⟩, True.intro⟩, ⟨⟨⟨True.intro, True.intro⟩, ⟨⟨True.intro, ⟨(p _ DD.D_changed), ⟨True.intro, ⟨⟨True.intro, True.intro⟩, ⟨⟨True.intro, ⟨(p _ DD.D_cell_of), ⟨True.intro, ⟨⟨True.intro, True.intro⟩, True.intro⟩⟩⟩⟩, True.intro⟩⟩⟩⟩⟩, True.intro⟩, ⟨⟨⟨True.intro, True.intro⟩, ⟨⟨True.intro, ⟨(p _ DD.D_changed), ⟨True.intro, ⟨⟨(p _ DD.D_cell_of), ⟨True.intro, ⟨⟨True.intro, True.intro⟩, True.intro⟩⟩⟩, ⟨⟨True.intro, True.intro⟩, True.intro⟩⟩⟩⟩⟩, True.intro⟩, ⟨⟨⟨True.intro, True.intro⟩, ⟨⟨True.intro, ⟨True.intro, ⟨⟨True.intro, True.intro⟩, True.intro⟩⟩⟩, True.intro⟩, True.intro⟩, True.intro⟩⟩, True.intro⟩⟩, True.intro⟩⟩, ⟨⟨True.intro, ⟨True.intro, ⟨True.intro, ⟨True.intro, True.intro⟩⟩⟩⟩, ⟨⟨⟨⟨True.intro, True.intro⟩, ⟨⟨⟨True.intro, True.intro⟩, ⟨⟨⟨True.intro, True.intro⟩, True.intro⟩, True.intro⟩⟩, True.intro⟩⟩, ⟨⟨True.intro, ⟨⟨(p _ DD.D_goal_of), ⟨True.intro, True.intro⟩⟩, True.intro⟩⟩, True.intro⟩, True.intro⟩, ⟨⟨True.intro, ⟨⟨True.intro, True.intro⟩, True.intro⟩⟩, True.intro⟩⟩⟩⟩⟩⟩) (.inl rfl)
theorem fd_D_run_in (c : Says w h K) : ∃ fdat, FunD K D_run_in.nm D_run_in.nm (defArgs (top 39)) (defBody (top 39)) (defScope (top 39)) [] [] (He.ga K D_run_in.nm) fdat := c.t.d.def_ 21 (d := defD D_run_in (top 39)) rfl
theorem ok_D_run_in {fu : Nat} (X : K.In h) (G : h.Ns mainGlobals mg) (c : Says w h K) {fdat : FuncData} (F : FunD K D_run_in.nm D_run_in.nm (defArgs (top 39)) (defBody (top 39)) (defScope (top 39)) [] [] (He.ga K D_run_in.nm) fdat) : At K mg D_run_in (He.ga K D_run_in.nm) fdat ∧ ∀ n, Snd (gm K) PW w K mg base fu n DD LL (WW K) → FnOk PW w K mg base (L2.CX PW w) (n + 1) (He.ga K D_run_in.nm) fdat (D_run_in.N.take D_run_in.np) (spI (gm K) (callM fu (n + 1)) D_run_in) :=
  def_ok dc_D_run_in rfl (free_h X G c) (glo_h X G c (by decide +kernel)) F (cls_h X G c).nil
    (fun Pd p => ⟨⟨⟨True.intro, ⟨True.intro, True.intro⟩⟩, ⟨True.intro, ⟨True.intro, True.intro⟩⟩⟩, ⟨⟨⟨⟨True.intro, ⟨True.intro, True.intro⟩⟩, ⟨⟨True.intro, True.intro⟩, True.intro⟩⟩, ⟨⟨⟨True.intro, ⟨True.intro, True.intro⟩⟩, ⟨(p _ DD.D_step_in), ⟨True.intro, ⟨True.intro, ⟨True.intro, True.intro⟩⟩⟩⟩⟩, ⟨True.intro, True.intro⟩⟩⟩, ⟨⟨True.intro, ⟨True.intro, ⟨True.intro, True.intro⟩⟩⟩, True.intro⟩⟩⟩) (.inl rfl)
theorem fd_D_stepped (c : Says w h K) : ∃ fdat, FunD K D_stepped.nm D_stepped.nm (defArgs (top 40)) (defBody (top 40)) (defScope (top 40)) [] [] (He.ga K D_stepped.nm) fdat := c.t.d.def_ 22 (d := defD D_stepped (top 40)) rfl
theorem ok_D_stepped {fu : Nat} (X : K.In h) (G : h.Ns mainGlobals mg) (c : Says w h K) {fdat : FuncData} (F : FunD K D_stepped.nm D_stepped.nm (defArgs (top 40)) (defBody (top 40)) (defScope (top 40)) [] [] (He.ga K D_stepped.nm) fdat) : At K mg D_stepped (He.ga K D_stepped.nm) fdat ∧ ∀ n, Snd (gm K) PW w K mg base fu n DD LL (WW K) → FnOk PW w K mg base (L2.CX PW w) (n + 1) (He.ga K D_stepped.nm) fdat (D_stepped.N.take D_stepped.np) (spI (gm K) (callM fu (n + 1)) D_stepped) :=
  def_ok dc_D_stepped rfl (free_h X G c) (glo_h X G c (by decide +kernel)) F (cls_h X G c).nil
    (fun Pd p => ⟨⟨(p _ DD.D_need_program), ⟨True.intro, True.intro⟩⟩, ⟨⟨(p _ DD.D_need_state), ⟨True.intro, True.intro⟩⟩, ⟨⟨⟨(p _ DD.D_is_in), ⟨True.intro, ⟨True.intro, ⟨⟨⟨True.intro, True.intro⟩, True.intro⟩, True.intro⟩⟩⟩⟩, ⟨⟨(ra_BadNumber X G c), True.intro⟩, True.intro⟩, True.intro⟩, ⟨⟨(p _ DD.D_step_in), ⟨True.intro, ⟨True.intro, ⟨True.intro, True.intro⟩⟩⟩⟩, True.intro⟩⟩⟩⟩) (.inl rfl)
theorem fd_D_ran (c : Says w h K) : ∃ fdat, FunD K D_ran.nm D_ran.nm (defArgs (top 41)) (defBody (top 41)) (defScope (top 41)) [] [] (He.ga K D_ran.nm) fdat := c.t.d.def_ 23 (d := defD D_ran (top 41)) rfl
theorem ok_D_ran {fu : Nat} (X : K.In h) (G : h.Ns mainGlobals mg) (c : Says w h K) {fdat : FuncData} (F : FunD K D_ran.nm D_ran.nm (defArgs (top 41)) (defBody (top 41)) (defScope (top 41)) [] [] (He.ga K D_ran.nm) fdat) : At K mg D_ran (He.ga K D_ran.nm) fdat ∧ ∀ n, Snd (gm K) PW w K mg base fu n DD LL (WW K) → FnOk PW w K mg base (L2.CX PW w) (n + 1) (He.ga K D_ran.nm) fdat (D_ran.N.take D_ran.np) (spI (gm K) (callM fu (n + 1)) D_ran) :=
  def_ok dc_D_ran rfl (free_h X G c) (glo_h X G c (by decide +kernel)) F (cls_h X G c).nil
    (fun Pd p => ⟨⟨(p _ DD.D_need_program), ⟨True.intro, True.intro⟩⟩, ⟨⟨(p _ DD.D_need_state), ⟨True.intro, True.intro⟩⟩, ⟨⟨⟨(p _ DD.D_is_in), ⟨True.intro, ⟨True.intro, ⟨(gl_MOST_STEPS X G c), True.intro⟩⟩⟩⟩, ⟨⟨(ra_BadNumber X G c), True.intro⟩, True.intro⟩, True.intro⟩, ⟨⟨(p _ DD.D_run_in), ⟨True.intro, ⟨True.intro, ⟨True.intro, True.intro⟩⟩⟩⟩, True.intro⟩⟩⟩⟩) (.inl rfl)
theorem fd_D_ended (c : Says w h K) : ∃ fdat, FunD K D_ended.nm D_ended.nm (defArgs (top 42)) (defBody (top 42)) (defScope (top 42)) [] [] (He.ga K D_ended.nm) fdat := c.t.d.def_ 24 (d := defD D_ended (top 42)) rfl
theorem ok_D_ended {fu : Nat} (X : K.In h) (G : h.Ns mainGlobals mg) (c : Says w h K) {fdat : FuncData} (F : FunD K D_ended.nm D_ended.nm (defArgs (top 42)) (defBody (top 42)) (defScope (top 42)) [] [] (He.ga K D_ended.nm) fdat) : At K mg D_ended (He.ga K D_ended.nm) fdat ∧ ∀ n, Snd (gm K) PW w K mg base fu n DD LL (WW K) → FnOk PW w K mg base (L2.CX PW w) (n + 1) (He.ga K D_ended.nm) fdat (D_ended.N.take D_ended.np) (spI (gm K) (callM fu (n + 1)) D_ended) :=
  def_ok dc_D_ended rfl (free_h X G c) (glo_h X G c (by decide +kernel)) F (cls_h X G c).nil
    (fun Pd p => ⟨⟨(p _ DD.D_need_program), ⟨True.intro, True.intro⟩⟩, ⟨⟨(p _ DD.D_need_state), ⟨True.intro, True.intro⟩⟩, ⟨⟨⟨True.intro, ⟨True.intro, ⟨True.intro, True.intro⟩⟩⟩, ⟨(p _ DD.D_run_in), ⟨True.intro, ⟨True.intro, ⟨(gl_MOST_STEPS X G c), True.intro⟩⟩⟩⟩⟩, ⟨⟨⟨True.intro, ⟨True.intro, True.intro⟩⟩, ⟨⟨(rv_TooLong X G c), (gl_MOST_STEPS X G c), True.intro⟩, True.intro⟩, True.intro⟩, ⟨⟨True.intro, ⟨True.intro, True.intro⟩⟩, True.intro⟩⟩⟩⟩⟩) (.inl rfl)
theorem fd_D_law_taken (c : Says w h K) : ∃ fdat, FunD K D_law_taken.nm D_law_taken.nm (defArgs (top 44)) (defBody (top 44)) (defScope (top 44)) [] [] (He.ga K D_law_taken.nm) fdat := c.t.d.def_ 25 (d := defD D_law_taken (top 44)) rfl
theorem ok_D_law_taken {fu : Nat} (X : K.In h) (G : h.Ns mainGlobals mg) (c : Says w h K) {fdat : FuncData} (F : FunD K D_law_taken.nm D_law_taken.nm (defArgs (top 44)) (defBody (top 44)) (defScope (top 44)) [] [] (He.ga K D_law_taken.nm) fdat) : At K mg D_law_taken (He.ga K D_law_taken.nm) fdat ∧ ∀ n, Snd (gm K) PW w K mg base fu n DD LL (WW K) → FnOk PW w K mg base (L2.CX PW w) (n + 1) (He.ga K D_law_taken.nm) fdat (D_law_taken.N.take D_law_taken.np) (spI (gm K) (callM fu (n + 1)) D_law_taken) :=
  def_ok dc_D_law_taken rfl (free_h X G c) (glo_h X G c (by decide +kernel)) F (cls_h X G c).nil
    (fun Pd p => ⟨⟨⟨⟨True.intro, True.intro⟩, True.intro⟩, ⟨⟨True.intro, ⟨⟨⟨True.intro, True.intro⟩, True.intro⟩, True.intro⟩⟩, ⟨⟨⟨True.intro, True.intro⟩, ⟨⟨True.intro, True.intro⟩, True.intro⟩⟩, ⟨True.intro, True.intro⟩⟩⟩, True.intro⟩, ⟨⟨⟨True.intro, True.intro⟩, ⟨⟨True.intro, True.intro⟩, True.intro⟩⟩, ⟨⟨⟨⟨True.intro, True.intro⟩, ⟨⟨True.intro, True.intro⟩, True.intro⟩⟩, ⟨⟨⟨True.intro, True.intro⟩, ⟨⟨⟨⟨⟨True.intro, True.intro⟩, True.intro⟩, True.intro⟩, True.intro⟩, True.intro⟩⟩, ⟨⟨⟨⟨⟨True.intro, True.intro⟩, True.intro⟩, True.intro⟩, True.intro⟩, True.intro⟩⟩, True.intro⟩, ⟨⟨True.intro, ⟨⟨True.intro, True.intro⟩, ⟨⟨True.intro, True.intro⟩, True.intro⟩⟩⟩, ⟨⟨⟨True.intro, True.intro⟩, ⟨⟨⟨⟨⟨⟨True.intro, True.intro⟩, True.intro⟩, True.intro⟩, True.intro⟩, True.intro⟩, True.intro⟩⟩, ⟨⟨⟨True.intro, ⟨True.intro, True.intro⟩⟩, ⟨⟨⟨True.intro, True.intro⟩, ⟨True.intro, True.intro⟩⟩, True.intro⟩, True.intro⟩, ⟨⟨⟨True.intro, True.intro⟩, True.intro⟩, True.intro⟩⟩⟩⟩⟩⟩⟩) (.inl rfl)
theorem fd_D_law_pick (c : Says w h K) : ∃ fdat, FunD K D_law_pick.nm D_law_pick.nm (defArgs (top 45)) (defBody (top 45)) (defScope (top 45)) [] [] (He.ga K D_law_pick.nm) fdat := c.t.d.def_ 26 (d := defD D_law_pick (top 45)) rfl
theorem ok_D_law_pick {fu : Nat} (X : K.In h) (G : h.Ns mainGlobals mg) (c : Says w h K) {fdat : FuncData} (F : FunD K D_law_pick.nm D_law_pick.nm (defArgs (top 45)) (defBody (top 45)) (defScope (top 45)) [] [] (He.ga K D_law_pick.nm) fdat) : At K mg D_law_pick (He.ga K D_law_pick.nm) fdat ∧ ∀ n, Snd (gm K) PW w K mg base fu n DD LL (WW K) → FnOk PW w K mg base (L2.CX PW w) (n + 1) (He.ga K D_law_pick.nm) fdat (D_law_pick.N.take D_law_pick.np) (spI (gm K) (callM fu (n + 1)) D_law_pick) :=
  def_ok dc_D_law_pick rfl (free_h X G c) (glo_h X G c (by decide +kernel)) F (cls_h X G c).nil
    (fun Pd p => ⟨⟨True.intro, ⟨(p _ DD.D_law_taken), ⟨True.intro, ⟨⟨True.intro, True.intro⟩, True.intro⟩⟩⟩⟩, True.intro⟩) (.inl rfl)
theorem fd_D_law_alike (c : Says w h K) : ∃ fdat, FunD K D_law_alike.nm D_law_alike.nm (defArgs (top 46)) (defBody (top 46)) (defScope (top 46)) [] [] (He.ga K D_law_alike.nm) fdat := c.t.d.def_ 27 (d := defD D_law_alike (top 46)) rfl
theorem ok_D_law_alike {fu : Nat} (X : K.In h) (G : h.Ns mainGlobals mg) (c : Says w h K) {fdat : FuncData} (F : FunD K D_law_alike.nm D_law_alike.nm (defArgs (top 46)) (defBody (top 46)) (defScope (top 46)) [] [] (He.ga K D_law_alike.nm) fdat) : At K mg D_law_alike (He.ga K D_law_alike.nm) fdat ∧ ∀ n, Snd (gm K) PW w K mg base fu n DD LL (WW K) → FnOk PW w K mg base (L2.CX PW w) (n + 1) (He.ga K D_law_alike.nm) fdat (D_law_alike.N.take D_law_alike.np) (spI (gm K) (callM fu (n + 1)) D_law_alike) :=
  def_ok dc_D_law_alike rfl (free_h X G c) (glo_h X G c (by decide +kernel)) F (cls_h X G c).nil
    (fun Pd p => ⟨⟨True.intro, ⟨⟨⟨True.intro, ⟨⟨True.intro, True.intro⟩, True.intro⟩⟩, ⟨True.intro, True.intro⟩, True.intro⟩, ⟨⟨⟨⟨True.intro, True.intro⟩, ⟨True.intro, True.intro⟩⟩, ⟨True.intro, True.intro⟩, True.intro⟩, ⟨⟨⟨True.intro, ⟨True.intro, True.intro⟩, ⟨⟨(p _ DD.D_law_alike), ⟨⟨True.intro, True.intro⟩, ⟨⟨True.intro, True.intro⟩, True.intro⟩⟩⟩, True.intro⟩, True.intro⟩, True.intro⟩, True.intro⟩⟩⟩, True.intro⟩, ⟨⟨⟨True.intro, ⟨True.intro, True.intro⟩⟩, ⟨⟨⟨True.intro, True.intro⟩, ⟨⟨True.intro, True.intro⟩, True.intro⟩⟩, True.intro⟩, True.intro⟩, ⟨⟨True.intro, ⟨⟨True.intro, True.intro⟩, ⟨⟨True.intro, True.intro⟩, True.intro⟩⟩⟩, True.intro⟩⟩⟩) (.inl rfl)
theorem fd_D_law_word (c : Says w h K) : ∃ fdat, FunD K D_law_word.nm D_law_word.nm (defArgs (top 47)) (defBody (top 47)) (defScope (top 47)) [] [] (He.ga K D_law_word.nm) fdat := c.t.d.def_ 28 (d := defD D_law_word (top 47)) rfl
theorem ok_D_law_word {fu : Nat} (X : K.In h) (G : h.Ns mainGlobals mg) (c : Says w h K) {fdat : FuncData} (F : FunD K D_law_word.nm D_law_word.nm (defArgs (top 47)) (defBody (top 47)) (defScope (top 47)) [] [] (He.ga K D_law_word.nm) fdat) : At K mg D_law_word (He.ga K D_law_word.nm) fdat ∧ ∀ n, Snd (gm K) PW w K mg base fu n DD LL (WW K) → FnOk PW w K mg base (L2.CX PW w) (n + 1) (He.ga K D_law_word.nm) fdat (D_law_word.N.take D_law_word.np) (spI (gm K) (callM fu (n + 1)) D_law_word) :=
  def_ok dc_D_law_word rfl (free_h X G c) (glo_h X G c (by decide +kernel)) F (cls_h X G c).nil
    (fun Pd p => ⟨⟨(p _ DD.D_law_pick), ⟨True.intro, ⟨⟨True.intro, ⟨True.intro, ⟨True.intro, ⟨True.intro, ⟨True.intro, ⟨True.intro, ⟨True.intro, ⟨True.intro, ⟨⟨(p _ DD.D_law_taken), ⟨True.intro, ⟨True.intro, True.intro⟩⟩⟩, True.intro⟩⟩⟩⟩⟩⟩⟩⟩⟩, True.intro⟩⟩⟩, True.intro⟩) (.inl rfl)
theorem fd_D_law_instruction (c : Says w h K) : ∃ fdat, FunD K D_law_instruction.nm D_law_instruction.nm (defArgs (top 48)) (defBody (top 48)) (defScope (top 48)) [] [] (He.ga K D_law_instruction.nm) fdat := c.t.d.def_ 29 (d := defD D_law_instruction (top 48)) rfl
theorem ok_D_law_instruction {fu : Nat} (X : K.In h) (G : h.Ns mainGlobals mg) (c : Says w h K) {fdat : FuncData} (F : FunD K D_law_instruction.nm D_law_instruction.nm (defArgs (top 48)) (defBody (top 48)) (defScope (top 48)) [] [] (He.ga K D_law_instruction.nm) fdat) : At K mg D_law_instruction (He.ga K D_law_instruction.nm) fdat ∧ ∀ n, Snd (gm K) PW w K mg base fu n DD LL (WW K) → FnOk PW w K mg base (L2.CX PW w) (n + 1) (He.ga K D_law_instruction.nm) fdat (D_law_instruction.N.take D_law_instruction.np) (spI (gm K) (callM fu (n + 1)) D_law_instruction) :=
  def_ok dc_D_law_instruction rfl (free_h X G c) (glo_h X G c (by decide +kernel)) F (cls_h X G c).nil
    (fun Pd p => ⟨⟨⟨True.intro, ⟨True.intro, ⟨True.intro, True.intro⟩⟩⟩, ⟨⟨(p _ DD.D_law_taken), ⟨True.intro, ⟨True.intro, True.intro⟩⟩⟩, ⟨⟨(p _ DD.D_law_taken), ⟨True.intro, ⟨True.intro, True.intro⟩⟩⟩, ⟨⟨(p _ DD.D_law_taken), ⟨True.intro, ⟨True.intro, True.intro⟩⟩⟩, True.intro⟩⟩⟩⟩, ⟨⟨True.intro, ⟨(p _ DD.D_law_taken), ⟨True.intro, ⟨True.intro, True.intro⟩⟩⟩⟩, ⟨⟨⟨True.intro, True.intro⟩, ⟨⟨⟨⟨True.intro, ⟨True.intro, ⟨True.intro, ⟨True.intro, True.intro⟩⟩⟩⟩, True.intro⟩, ⟨True.intro, ⟨True.intro, ⟨True.intro, True.intro⟩⟩⟩⟩, True.intro⟩, True.intro⟩, ⟨⟨⟨True.intro, True.intro⟩, ⟨⟨True.intro, ⟨True.intro, ⟨True.intro, ⟨True.intro, True.intro⟩⟩⟩⟩, True.intro⟩, True.intro⟩, ⟨⟨⟨True.intro, True.intro⟩, ⟨⟨True.intro, ⟨True.intro, ⟨True.intro, ⟨⟨(p _ DD.D_law_taken), ⟨True.intro, ⟨True.intro, True.intro⟩⟩⟩, True.intro⟩⟩⟩⟩, True.intro⟩, True.intro⟩, ⟨⟨⟨True.intro, True.intro⟩, ⟨⟨True.intro, ⟨True.intro, ⟨True.intro, ⟨⟨(p _ DD.D_law_taken), ⟨True.intro, ⟨True.intro, True.intro⟩⟩⟩, True.intro⟩⟩⟩⟩, True.intro⟩, True.intro⟩, ⟨⟨⟨True.intro, True.intro⟩, ⟨⟨True.intro, ⟨True.intro, ⟨⟨(p _ DD.D_law_taken), ⟨True.intro, ⟨⟨True.intro, True.intro⟩, True.intro⟩⟩⟩, True.intro⟩⟩⟩, True.intro⟩, True.intro⟩, ⟨⟨⟨True.intro, True.intro⟩, ⟨⟨⟨True.intro, True.intro⟩, ⟨True.intro, ⟨True.intro, ⟨⟨(p _ DD.D_law_word), ⟨True.intro, True.intro⟩⟩, True.intro⟩⟩⟩, ⟨True.intro, ⟨⟨(p _ DD.D_law_taken), ⟨True.intro, ⟨⟨True.intro, True.intro⟩, True.intro⟩⟩⟩, True.intro⟩⟩⟩, True.intro⟩, True.intro⟩, ⟨⟨⟨True.intro, True.intro⟩, ⟨True.intro, ⟨True.intro, True.intro⟩⟩, ⟨True.intro, True.intro⟩⟩, True.intro⟩⟩⟩⟩⟩⟩⟩⟩⟩) (.inl rfl)
theorem fd_D_law_program (c : Says w h K) : ∃ fdat, FunD K D_law_program.nm D_law_program.nm (defArgs (top 49)) (defBody (top 49)) (defScope (top 49)) [] [] (He.ga K D_law_program.nm) fdat := c.t.d.def_ 30 (d := defD D_law_program (top 49)) rfl
theorem ok_D_law_program {fu : Nat} (X : K.In h) (G : h.Ns mainGlobals mg) (c : Says w h K) {fdat : FuncData} (F : FunD K D_law_program.nm D_law_program.nm (defArgs (top 49)) (defBody (top 49)) (defScope (top 49)) [] [] (He.ga K D_law_program.nm) fdat) : At K mg D_law_program (He.ga K D_law_program.nm) fdat ∧ ∀ n, Snd (gm K) PW w K mg base fu n DD LL (WW K) → FnOk PW w K mg base (L2.CX PW w) (n + 1) (He.ga K D_law_program.nm) fdat (D_law_program.N.take D_law_program.np) (spI (gm K) (callM fu (n + 1)) D_law_program) :=
  def_ok dc_D_law_program rfl (free_h X G c) (glo_h X G c (by decide +kernel)) F (cls_h X G c).nil
    (fun Pd p => ⟨⟨True.intro, ⟨(p _ DD.D_law_taken), ⟨True.intro, ⟨⟨True.intro, True.intro⟩, True.intro⟩⟩⟩⟩, ⟨⟨⟨True.intro, True.intro, True.intro, ⟨(p _ DD.D_law_instruction), ⟨True.intro, ⟨True.intro, True.intro⟩⟩⟩⟩, True.intro⟩, True.intro⟩⟩) (.inl rfl)
theorem fd_D_law_state (c : Says w h K) : ∃ fdat, FunD K D_law_state.nm D_law_state.nm (defArgs (top 50)) (defBody (top 50)) (defScope (top 50)) [] [] (He.ga K D_law_state.nm) fdat := c.t.d.def_ 31 (d := defD D_law_state (top 50)) rfl
theorem ok_D_law_state {fu : Nat} (X : K.In h) (G : h.Ns mainGlobals mg) (c : Says w h K) {fdat : FuncData} (F : FunD K D_law_state.nm D_law_state.nm (defArgs (top 50)) (defBody (top 50)) (defScope (top 50)) [] [] (He.ga K D_law_state.nm) fdat) : At K mg D_law_state (He.ga K D_law_state.nm) fdat ∧ ∀ n, Snd (gm K) PW w K mg base fu n DD LL (WW K) → FnOk PW w K mg base (L2.CX PW w) (n + 1) (He.ga K D_law_state.nm) fdat (D_law_state.N.take D_law_state.np) (spI (gm K) (callM fu (n + 1)) D_law_state) :=
  def_ok dc_D_law_state rfl (free_h X G c) (glo_h X G c (by decide +kernel)) F (cls_h X G c).nil
    (fun Pd p => ⟨⟨True.intro, ⟨⟨⟨True.intro, True.intro, True.intro, ⟨(p _ DD.D_law_word), ⟨True.intro, True.intro⟩⟩⟩, True.intro⟩, ⟨True.intro, ⟨True.intro, ⟨True.intro, ⟨True.intro, True.intro⟩⟩⟩⟩⟩⟩, ⟨⟨True.intro, ⟨⟨⟨⟨True.intro, True.intro, True.intro, ⟨(p _ DD.D_law_word), ⟨True.intro, True.intro⟩⟩⟩, True.intro⟩, ⟨True.intro, ⟨True.intro, ⟨True.intro, ⟨True.intro, ⟨True.intro, ⟨True.intro, ⟨True.intro, ⟨True.intro, True.intro⟩⟩⟩⟩⟩⟩⟩⟩⟩, ⟨⟨⟨True.intro, True.intro⟩, ⟨(p _ DD.D_law_taken), ⟨True.intro, ⟨True.intro, True.intro⟩⟩⟩⟩, True.intro⟩⟩⟩, True.intro⟩⟩) (.inl rfl)
theorem fd_D_law_kind (c : Says w h K) : ∃ fdat, FunD K D_law_kind.nm D_law_kind.nm (defArgs (top 51)) (defBody (top 51)) (defScope (top 51)) [] [] (He.ga K D_law_kind.nm) fdat := c.t.d.def_ 32 (d := defD D_law_kind (top 51)) rfl
theorem ok_D_law_kind {fu : Nat} (X : K.In h) (G : h.Ns mainGlobals mg) (c : Says w h K) {fdat : FuncData} (F : FunD K D_law_kind.nm D_law_kind.nm (defArgs (top 51)) (defBody (top 51)) (defScope (top 51)) [] [] (He.ga K D_law_kind.nm) fdat) : At K mg D_law_kind (He.ga K D_law_kind.nm) fdat ∧ ∀ n, Snd (gm K) PW w K mg base fu n DD LL (WW K) → FnOk PW w K mg base (L2.CX PW w) (n + 1) (He.ga K D_law_kind.nm) fdat (D_law_kind.N.take D_law_kind.np) (spI (gm K) (callM fu (n + 1)) D_law_kind) :=
  def_ok dc_D_law_kind rfl (free_h X G c) (glo_h X G c (by decide +kernel)) F (cls_h X G c).nil
    (fun Pd p => ⟨⟨⟨⟨True.intro, True.intro⟩, ⟨True.intro, ⟨True.intro, ⟨True.intro, ⟨True.intro, True.intro⟩⟩⟩⟩⟩, True.intro, ⟨True.intro, True.intro⟩⟩, True.intro⟩) (.inl rfl)
theorem fd_D_law_uses (c : Says w h K) : ∃ fdat, FunD K D_law_uses.nm D_law_uses.nm (defArgs (top 52)) (defBody (top 52)) (defScope (top 52)) [] [] (He.ga K D_law_uses.nm) fdat := c.t.d.def_ 33 (d := defD D_law_uses (top 52)) rfl
theorem ok_D_law_uses {fu : Nat} (X : K.In h) (G : h.Ns mainGlobals mg) (c : Says w h K) {fdat : FuncData} (F : FunD K D_law_uses.nm D_law_uses.nm (defArgs (top 52)) (defBody (top 52)) (defScope (top 52)) [] [] (He.ga K D_law_uses.nm) fdat) : At K mg D_law_uses (He.ga K D_law_uses.nm) fdat ∧ ∀ n, Snd (gm K) PW w K mg base fu n DD LL (WW K) → FnOk PW w K mg base (L2.CX PW w) (n + 1) (He.ga K D_law_uses.nm) fdat (D_law_uses.N.take D_law_uses.np) (spI (gm K) (callM fu (n + 1)) D_law_uses) :=
  def_ok dc_D_law_uses rfl (free_h X G c) (glo_h X G c (by decide +kernel)) F (cls_h X G c).nil
    (fun Pd p => ⟨⟨True.intro, ⟨(p _ DD.D_law_kind), ⟨True.intro, True.intro⟩⟩⟩, ⟨⟨⟨True.intro, ⟨True.intro, ⟨True.intro, True.intro⟩⟩⟩, ⟨⟨⟨True.intro, ⟨⟨True.intro, True.intro⟩, True.intro⟩⟩, ⟨⟨True.intro, ⟨⟨True.intro, True.intro⟩, True.intro⟩⟩, True.intro⟩⟩, True.intro⟩, True.intro⟩, ⟨⟨⟨True.intro, True.intro⟩, ⟨⟨⟨True.intro, ⟨⟨True.intro, True.intro⟩, True.intro⟩⟩, ⟨⟨True.intro, ⟨⟨True.intro, True.intro⟩, True.intro⟩⟩, True.intro⟩⟩, True.intro⟩, True.intro⟩, ⟨⟨⟨True.intro, True.intro⟩, ⟨⟨⟨True.intro, ⟨⟨True.intro, True.intro⟩, True.intro⟩⟩, True.intro⟩, True.intro⟩, True.intro⟩, ⟨⟨⟨True.intro, ⟨True.intro, ⟨True.intro, True.intro⟩⟩⟩, ⟨⟨True.intro, ⟨⟨True.intro, True.intro⟩, True.intro⟩⟩, True.intro⟩, True.intro⟩, True.intro⟩⟩⟩⟩⟩) (.inl rfl)
theorem fd_D_law_made_2 (c : Says w h K) : ∃ fdat, FunD K D_law_made_2.nm D_law_made_2.nm (defArgs (top 53)) (defBody (top 53)) (defScope (top 53)) [] [] (He.ga K D_law_made_2.nm) fdat := c.t.d.def_ 34 (d := defD D_law_made_2 (top 53)) rfl
theorem ok_D_law_made_2 {fu : Nat} (X : K.In h) (G : h.Ns mainGlobals mg) (c : Says w h K) {fdat : FuncData} (F : FunD K D_law_made_2.nm D_law_made_2.nm (defArgs (top 53)) (defBody (top 53)) (defScope (top 53)) [] [] (He.ga K D_law_made_2.nm) fdat) : At K mg D_law_made_2 (He.ga K D_law_made_2.nm) fdat ∧ ∀ n, Snd (gm K) PW w K mg base fu n DD LL (WW K) → FnOk PW w K mg base (L2.CX PW w) (n + 1) (He.ga K D_law_made_2.nm) fdat (D_law_made_2.N.take D_law_made_2.np) (spI (gm K) (callM fu (n + 1)) D_law_made_2) :=
  def_ok dc_D_law_made_2 rfl (free_h X G c) (glo_h X G c (by decide +kernel)) F (cls_h X G c).nil
    (fun Pd p => ⟨⟨⟨⟨True.intro, True.intro⟩, True.intro⟩, ⟨⟨True.intro, True.intro⟩, True.intro⟩, True.intro⟩, ⟨⟨⟨True.intro, ⟨True.intro, True.intro⟩⟩, True.intro⟩, ⟨⟨⟨⟨True.intro, True.intro⟩, True.intro⟩, ⟨⟨True.intro, ⟨True.intro, ⟨True.intro, ⟨True.intro, ⟨True.intro, ⟨True.intro, ⟨True.intro, ⟨True.intro, ⟨True.intro, ⟨True.intro, ⟨True.intro, ⟨True.intro, ⟨True.intro, ⟨True.intro, ⟨True.intro, ⟨True.intro, ⟨True.intro, True.intro⟩⟩⟩⟩⟩⟩⟩⟩⟩⟩⟩⟩⟩⟩⟩⟩⟩, ⟨⟨⟨True.intro, True.intro, ⟨⟨⟨⟨⟨⟨True.intro, True.intro⟩, True.intro⟩, True.intro⟩, ⟨⟨⟨True.intro, True.intro⟩, True.intro⟩, True.intro⟩⟩, True.intro⟩, True.intro⟩, True.intro⟩, True.intro⟩, True.intro⟩⟩, True.intro⟩, ⟨⟨⟨⟨True.intro, True.intro⟩, True.intro⟩, ⟨⟨⟨True.intro, True.intro⟩, True.intro⟩, True.intro⟩, True.intro⟩, ⟨⟨True.intro, ⟨⟨⟨True.intro, ⟨True.intro, ⟨True.intro, True.intro⟩⟩⟩, ⟨⟨True.intro, True.intro⟩, ⟨⟨True.intro, True.intro⟩, ⟨⟨True.intro, True.intro⟩, True.intro⟩⟩⟩⟩, ⟨True.intro, True.intro⟩⟩⟩, ⟨⟨⟨True.intro, True.intro⟩, True.intro⟩, True.intro⟩⟩⟩⟩⟩⟩) (.inl rfl)
theorem fd_D_law_plain (c : Says w h K) : ∃ fdat, FunD K D_law_plain.nm D_law_plain.nm (defArgs (top 54)) (defBody (top 54)) (defScope (top 54)) [] [] (He.ga K D_law_plain.nm) fdat := c.t.d.def_ 35 (d := defD D_law_plain (top 54)) rfl
theorem ok_D_law_plain {fu : Nat} (X : K.In h) (G : h.Ns mainGlobals mg) (c : Says w h K) {fdat : FuncData} (F : FunD K D_law_plain.nm D_law_plain.nm (defArgs (top 54)) (defBody (top 54)) (defScope (top 54)) [] [] (He.ga K D_law_plain.nm) fdat) : At K mg D_law_plain (He.ga K D_law_plain.nm) fdat ∧ ∀ n, Snd (gm K) PW w K mg base fu n DD LL (WW K) → FnOk PW w K mg base (L2.CX PW w) (n + 1) (He.ga K D_law_plain.nm) fdat (D_law_plain.N.take D_law_plain.np) (spI (gm K) (callM fu (n + 1)) D_law_plain) :=
  def_ok dc_D_law_plain rfl (free_h X G c) (glo_h X G c (by decide +kernel)) F (cls_h X G c).nil
    (fun Pd p => ⟨⟨⟨True.intro, ⟨True.intro, ⟨True.intro, True.intro⟩⟩⟩, ⟨⟨⟨True.intro, True.intro⟩, True.intro⟩, ⟨⟨⟨True.intro, True.intro⟩, True.intro⟩, ⟨⟨⟨True.intro, True.intro⟩, True.intro⟩, True.intro⟩⟩⟩⟩, ⟨⟨⟨True.intro, ⟨True.intro, True.intro⟩⟩, ⟨True.intro, ⟨True.intro, True.intro⟩⟩⟩, ⟨⟨⟨⟨True.intro, ⟨True.intro, True.intro⟩⟩, ⟨⟨True.intro, True.intro⟩, True.intro⟩⟩, ⟨⟨True.intro, ⟨True.intro, True.intro⟩⟩, ⟨⟨⟨True.intro, ⟨True.intro, True.intro⟩⟩, ⟨⟨(p _ DD.D_law_kind), ⟨True.intro, True.intro⟩⟩, ⟨⟨⟨True.intro, ⟨True.intro, True.intro⟩⟩, ⟨(p _ DD.D_law_uses), ⟨True.intro, True.intro⟩⟩, True.intro, ⟨True.intro, True.intro⟩⟩, True.intro⟩⟩⟩, ⟨⟨⟨True.intro, ⟨True.intro, True.intro⟩⟩, ⟨⟨True.intro, True.intro⟩, ⟨⟨True.intro, True.intro⟩, True.intro⟩⟩⟩, ⟨⟨⟨True.intro, ⟨True.intro, ⟨True.intro, ⟨True.intro, True.intro⟩⟩⟩⟩, ⟨⟨⟨True.intro, ⟨True.intro, True.intro⟩⟩, ⟨(p _ DD.D_law_made_2), ⟨True.intro, ⟨True.intro, True.intro⟩⟩⟩⟩, True.intro⟩, True.intro⟩, ⟨⟨⟨True.intro, True.intro⟩, ⟨⟨⟨True.intro, ⟨True.intro, True.intro⟩⟩, ⟨True.intro, ⟨⟨⟨⟨True.intro, True.intro⟩, ⟨True.intro, True.intro⟩⟩, True.intro⟩, True.intro⟩⟩⟩, True.intro⟩, True.intro⟩, ⟨⟨⟨True.intro, True.intro⟩, ⟨⟨⟨True.intro, ⟨⟨⟨⟨True.intro, True.intro⟩, ⟨True.intro, True.intro⟩⟩, True.intro⟩, True.intro⟩⟩, ⟨True.intro, True.intro⟩⟩, True.intro⟩, True.intro⟩, ⟨⟨⟨True.intro, True.intro⟩, ⟨⟨True.intro, ⟨⟨True.intro, True.intro⟩, True.intro⟩⟩, True.intro⟩, True.intro⟩, ⟨⟨⟨⟨True.intro, True.intro⟩, ⟨⟨⟨True.intro, True.intro⟩, ⟨⟨⟨True.intro, True.intro⟩, True.intro⟩, True.intro⟩⟩, True.intro⟩⟩, ⟨⟨True.intro, ⟨True.intro, True.intro⟩⟩, True.intro⟩, True.intro⟩, True.intro⟩⟩⟩⟩⟩⟩⟩⟩⟩, ⟨⟨⟨⟨True.intro, True.intro⟩, ⟨⟨True.intro, True.intro⟩, ⟨⟨True.intro, True.intro⟩, True.intro⟩⟩⟩, ⟨True.intro, ⟨True.intro, True.intro⟩⟩⟩, True.intro⟩⟩⟩⟩) (.inl rfl)
theorem lm_D_law_k05_lam0 {fu : Nat} (X : K.In h) (G : h.Ns mainGlobals mg) (c : Says w h K) {n : Nat} (S : Snd (gm K) PW w K mg base fu n DD LL (WW K)) : LamSnd (gm K) PW w K mg base fu (n + 1) D_law_k05_lam0 A_D_law_k05_lam0 :=
  lam_run (γ := gm K) (e := D_law_k05_lam0E) rfl (free_h X G c) rfl nsc_D_law_k05_lam0 par_D_law_k05_lam0 rfl bnd_D_law_k05_lam0 chk_D_law_k05_lam0 fun A room => (fun (Pd : FnDef → Prop) (p : ∀ d, DD d → Pd d) => ((⟨(p _ DD.D_ended), ⟨True.intro, ⟨True.intro, True.intro⟩⟩⟩) : calE Pd (GcOk (gm K) mg) D_law_k05_lam0 D_law_k05_lam0E)) _ fun d hd => S.d d hd A room
theorem wm_D_law_told_k05_of0 {fu : Nat} (X : K.In h) (G : h.Ns mainGlobals mg) (c : Says w h K) {n : Nat} (S : Snd (gm K) PW w K mg base fu n DD LL (WW K)) : WSnd (gm K) PW w K mg base fu (n + 1) D_law_told_k05_of0 (D_law_k05_lam0.N.drop (parLen A_D_law_k05_lam0)) A_D_law_k05_lam0 (He.ga K "_law_told") := by
  obtain ⟨fdat, F⟩ := c.t.d.def_ 36 (d := ⟨("_law_told", none), "_law_told", "_law_told", defArgs (top 55), defBody (top 55), defScope (top 55), [], []⟩) rfl
  exact w_run (γ := gm K) (fk := ["0", "1"]) (Nw := D_law_told_k05_of0.N.drop 2) (stw := top 55) (qual := "_law_told") (isN := []) (isF := isFs) (k0 := 0) rfl (free_h X G c) (fun_of F) (F.bindsN fun _ _ _ _ _ _ us hl => match us, hl with | [_], _ => rfl) rfl sc_D_law_told_k05_of0 rfl (by decide +kernel) (by unfold Vis; decide +kernel) (by unfold Vis; decide +kernel) (by decide +kernel) (by decide +kernel) rfl rfl chk_D_law_told_k05_of0 (cls_h X G c)
    (fun Pd => ⟨⟨(ca_TooLong X G c), ⟨True.intro, True.intro⟩, fun _ => ⟨True.intro, True.intro⟩⟩, True.intro⟩) (S.l _ _ .D_law_k05_lam0)
theorem lf_D_law_k05 {fu : Nat} (X : K.In h) (G : h.Ns mainGlobals mg) (c : Says w h K) {n : Nat} (S : Snd (gm K) PW w K mg base fu n DD LL (WW K)) : LamFn (gm K) PW w K mg base fu n lsc_D_law_k05 D_law_k05 := by
  constructor
  · intro k a hk
    have m := look_mem hk
    simp only [lsc_D_law_k05, List.mem_cons, Prod.mk.injEq, List.not_mem_nil, or_false] at m
    rcases m with ⟨rfl, rfl⟩
    · exact ⟨par_D_law_k05_lam0, by decide +kernel⟩
  · intro k wd js hk
    have m := look_mem hk
    simp only [D_law_k05, FnDef.ws, List.mem_cons, Prod.mk.injEq, List.not_mem_nil, or_false] at m
    rcases m with ⟨rfl, rfl, rfl⟩
    · exact ⟨A_D_law_k05_lam0, D_law_k05_lam0.N.drop (parLen A_D_law_k05_lam0), He.ga K "_law_told", rfl, by decide +kernel, by decide +kernel, glo_h X G c (by decide +kernel), (by obtain ⟨fdat, F⟩ := c.t.d.def_ 36 (d := ⟨("_law_told", none), "_law_told", "_law_told", defArgs (top 55), defBody (top 55), defScope (top 55), [], []⟩) rfl; exact F.kp), S.w _ _ _ _ .D_law_told_k05_of0⟩
theorem fd_D_law_k05 (c : Says w h K) : ∃ fdat, FunD K D_law_k05.nm D_law_k05.nm (defArgs (top 56)) (defBody (top 56)) (defScope (top 56)) [] [] (He.ga K D_law_k05.nm) fdat := c.t.d.def_ 37 (d := defD D_law_k05 (top 56)) rfl
theorem ok_D_law_k05 {fu : Nat} (X : K.In h) (G : h.Ns mainGlobals mg) (c : Says w h K) (tb : ∀ p ∈ tf.map (He.cT K), TabB base mg p.1 p.2) {fdat : FuncData} (F : FunD K D_law_k05.nm D_law_k05.nm (defArgs (top 56)) (defBody (top 56)) (defScope (top 56)) [] [] (He.ga K D_law_k05.nm) fdat) : At K mg D_law_k05 (He.ga K D_law_k05.nm) fdat ∧ ∀ n, Snd (gm K) PW w K mg base fu n DD LL (WW K) → FnOk PW w K mg base (L2.CX PW w) (n + 1) (He.ga K D_law_k05.nm) fdat (D_law_k05.N.take D_law_k05.np) (spI (gm K) (callM fu (n + 1)) D_law_k05) :=
  def_ok dc_D_law_k05 rfl (free_h X G c) (glo_h X G c (by decide +kernel)) F (cls_h X G c).nil
    (fun Pd p => ⟨⟨True.intro, ⟨True.intro, ⟨True.intro, ⟨True.intro, ⟨True.intro, True.intro⟩⟩⟩⟩⟩, ⟨⟨⟨True.intro, ⟨True.intro, True.intro⟩⟩, ⟨⟨(p _ DD.D_law_program), ⟨True.intro, ⟨True.intro, True.intro⟩⟩⟩, ⟨⟨(p _ DD.D_law_state), ⟨True.intro, True.intro⟩⟩, True.intro⟩⟩⟩, ⟨⟨True.intro, ⟨(p _ DD.D_law_pick), ⟨True.intro, ⟨⟨True.intro, ⟨True.intro, ⟨True.intro, ⟨True.intro, ⟨True.intro, True.intro⟩⟩⟩⟩⟩, True.intro⟩⟩⟩⟩, ⟨⟨True.intro, ⟨(p _ DD.D_law_plain), ⟨True.intro, ⟨True.intro, ⟨True.intro, True.intro⟩⟩⟩⟩⟩, ⟨⟨⟨(p _ DD.D_law_alike), ⟨⟨(p _ DD.D_ran), ⟨True.intro, ⟨True.intro, ⟨True.intro, True.intro⟩⟩⟩⟩, ⟨True.intro, True.intro⟩⟩⟩, ⟨True.intro, True.intro⟩, True.intro⟩, ⟨⟨⟨True.intro, ⟨True.intro, ⟨True.intro, True.intro⟩⟩⟩, ⟨(p _ DD.D_law_plain), ⟨True.intro, ⟨True.intro, ⟨True.intro, True.intro⟩⟩⟩⟩⟩, ⟨⟨True.intro, True.intro⟩, ⟨⟨⟨True.intro, ⟨⟨True.intro, ⟨True.intro, True.intro⟩⟩, True.intro, ⟨True.intro, ⟨True.intro, True.intro⟩⟩⟩⟩, ⟨True.intro, True.intro⟩, True.intro⟩, ⟨⟨⟨True.intro, True.intro⟩, ⟨⟨True.intro, ⟨True.intro, ⟨True.intro, True.intro⟩⟩⟩, True.intro⟩, True.intro⟩, ⟨⟨True.intro, ⟨(p _ DD.D_law_taken), ⟨True.intro, ⟨⟨True.intro, True.intro⟩, True.intro⟩⟩⟩⟩, ⟨⟨True.intro, ⟨True.intro, True.intro⟩⟩, ⟨⟨⟨True.intro, ⟨True.intro, True.intro⟩⟩, ⟨(p _ DD.D_stepped), ⟨True.intro, ⟨True.intro, ⟨True.intro, True.intro⟩⟩⟩⟩⟩, ⟨⟨True.intro, ⟨⟨⟨⟨⟨True.intro, True.intro⟩, True.intro⟩, True.intro⟩, ⟨True.intro, True.intro⟩⟩, ⟨⟨⟨True.intro, True.intro⟩, True.intro⟩, ⟨⟨⟨True.intro, True.intro⟩, True.intro⟩, True.intro⟩⟩⟩⟩, ⟨⟨⟨True.intro, ⟨True.intro, ⟨True.intro, True.intro⟩⟩⟩, ⟨(p _ DD.D_law_plain), ⟨True.intro, ⟨True.intro, ⟨⟨True.intro, True.intro⟩, True.intro⟩⟩⟩⟩⟩, ⟨⟨⟨(p _ DD.D_law_alike), ⟨⟨True.intro, ⟨True.intro, True.intro⟩⟩, ⟨⟨True.intro, ⟨True.intro, True.intro⟩⟩, True.intro⟩⟩⟩, ⟨⟨⟨(p _ DD.D_ran), ⟨True.intro, ⟨True.intro, ⟨True.intro, True.intro⟩⟩⟩⟩, ⟨True.intro, ⟨True.intro, ⟨True.intro, True.intro⟩⟩⟩⟩, True.intro⟩⟩, True.intro⟩⟩⟩⟩⟩⟩⟩⟩⟩⟩⟩⟩⟩⟩⟩) (.inr ⟨fun fdat F => tab_at F (tb _ (List.mem_map_of_mem (f := He.cT K) (List.mem_singleton.mpr rfl))) rfl (fun _ _ => rfl), fun n S => lf_D_law_k05 X G c S⟩)
theorem snd_h {fu : Nat} (X : K.In h) (G : h.Ns mainGlobals mg) (c : Says w h K) (tb : ∀ p ∈ tf.map (He.cT K), TabB base mg p.1 p.2) : ∀ n, Snd (gm K) PW w K mg base fu n DD LL (WW K) :=
  snd_all (fun fd hd => by
    cases hd
    · exact def_at (fd_D_is_integer c) fun _ F => ok_D_is_integer X G c F
    · exact def_at (fd_D_is_in c) fun _ F => ok_D_is_in X G c F
    · exact def_at (fd_D_is_list c) fun _ F => ok_D_is_list X G c F
    · exact def_at (fd_D_is_word c) fun _ F => ok_D_is_word X G c F
    · exact def_at (fd_D_sum_of c) fun _ F => ok_D_sum_of X G c F
    · exact def_at (fd_D_rest_of c) fun _ F => ok_D_rest_of X G c F
    · exact def_at (fd_D_product_of c) fun _ F => ok_D_product_of X G c F
    · exact def_at (fd_D_common_of c) fun _ F => ok_D_common_of X G c F
    · exact def_at (fd_D_lesser_of c) fun _ F => ok_D_lesser_of X G c F
    · exact def_at (fd_D_is_register c) fun _ F => ok_D_is_register X G c F
    · exact def_at (fd_D_is_instruction_up_to c) fun _ F => ok_D_is_instruction_up_to X G c F
    · exact def_at (fd_D_need_program c) fun _ F => ok_D_need_program X G c F
    · exact def_at (fd_D_are_words c) fun _ F => ok_D_are_words X G c F
    · exact def_at (fd_D_need_state c) fun _ F => ok_D_need_state X G c F
    · exact def_at (fd_D_kind_in c) fun _ F => ok_D_kind_in X G c F
    · exact def_at (fd_D_uses_of c) fun _ F => ok_D_uses_of X G c F
    · exact def_at (fd_D_goal_of c) fun _ F => ok_D_goal_of X G c F
    · exact def_at (fd_D_result_of c) fun _ F => ok_D_result_of X G c F
    · exact def_at (fd_D_cell_of c) fun _ F => ok_D_cell_of X G c F
    · exact def_at (fd_D_changed c) fun _ F => ok_D_changed X G c F
    · exact def_at (fd_D_step_in c) fun _ F => ok_D_step_in X G c F
    · exact def_at (fd_D_run_in c) fun _ F => ok_D_run_in X G c F
    · exact def_at (fd_D_stepped c) fun _ F => ok_D_stepped X G c F
    · exact def_at (fd_D_ran c) fun _ F => ok_D_ran X G c F
    · exact def_at (fd_D_ended c) fun _ F => ok_D_ended X G c F
    · exact def_at (fd_D_law_taken c) fun _ F => ok_D_law_taken X G c F
    · exact def_at (fd_D_law_pick c) fun _ F => ok_D_law_pick X G c F
    · exact def_at (fd_D_law_alike c) fun _ F => ok_D_law_alike X G c F
    · exact def_at (fd_D_law_word c) fun _ F => ok_D_law_word X G c F
    · exact def_at (fd_D_law_instruction c) fun _ F => ok_D_law_instruction X G c F
    · exact def_at (fd_D_law_program c) fun _ F => ok_D_law_program X G c F
    · exact def_at (fd_D_law_state c) fun _ F => ok_D_law_state X G c F
    · exact def_at (fd_D_law_kind c) fun _ F => ok_D_law_kind X G c F
    · exact def_at (fd_D_law_uses c) fun _ F => ok_D_law_uses X G c F
    · exact def_at (fd_D_law_made_2 c) fun _ F => ok_D_law_made_2 X G c F
    · exact def_at (fd_D_law_plain c) fun _ F => ok_D_law_plain X G c F
    · exact def_at (fd_D_law_k05 c) fun _ F => ok_D_law_k05 X G c tb F
  ) (fun lam a hl n S => by
    cases hl
    · exact lm_D_law_k05_lam0 X G c S
  ) (fun wd lamN a g hw n S => by
    cases hw
    · exact wm_D_law_told_k05_of0 X G c S
  )
theorem law_at {fl : Addr} (X : K.In h) (G : h.Ns mainGlobals mg) (hfa : mg ("law" : Str) = some (.ref fl)) (c : Says w h K) : LawAtS PySem.Challenge.rw_stagebelt_k05_whole_plain w K (L2.CX PySem.Challenge.pw_stagebelt_k05_whole_plain w) LVL 63 "_law_script" mg fl h := by
  obtain ⟨fdat, F⟩ := fd_D_law_k05 c
  have e := hfa.symm.trans (glo_h X G c (x := "law") (by decide +kernel))
  cases e
  refine ⟨fdat, tf.map (He.cT K), thawed (spI (gm K) (callM FUEL LVL) D_law_k05), ?_, ?_, ?_, fun s v => F.bindsA (ps := ["_law_script"]) (dc_D_law_k05.bind) s [v] rfl, ?_, ?_⟩
  · intro p hp
    obtain ⟨t, ht, rfl⟩ := List.mem_map.mp hp
    exact c.empty t ht
  · intro p hp
    obtain ⟨t, ht, rfl⟩ := List.mem_map.mp hp
    exact c.out t ht
  · intro p hp
    obtain ⟨t, ht, rfl⟩ := List.mem_map.mp hp
    exact PySem.W.codeHd_of_K X (c.hd t ht)
  · intro H a ns len bits tabs S
    refine promise_of (n := 63) (K := K) rfl rfl (fun p hp => ?_) Lw.law_holds_k05 H a ns len bits tabs S
    obtain ⟨t, ht, rfl⟩ := List.mem_map.mp hp
    exact ⟨_, List.mem_map_of_mem (f := He.cT K) ht, rfl⟩
  · intro base _ _ tb
    exact thaw ((ok_D_law_k05 X G c tb F).2 (LVL - 1) (snd_h X G c tb (LVL - 1)))
end
/-! ### the head -/
abbrev R : PySem.W.OpenRow := PySem.W.OpenLaw.row PySem.Challenge.rw_stagebelt_k05_whole_plain
abbrev hk : PySem.W.Hook := hookY 5 fa fn [] tf ex
def ob (s : PySem.W.SharedT) : He.AlX := seenY 5 fa fn [] tf ex (HandSHeadRun.getT s)
theorem ob_eq (s : PySem.W.SharedT) : ob s = hk.obs s.abs := seenY_eq 5 fa fn [] tf ex (HandSHeadRun.getT_eq s)
theorem run (w : World) : HandSHeadRun.RunEq R (PySem.W.view R.prog [56]) hk ob STEPS LOOSE w := by
  intro os
  kernel_rfl
end MP
open PySem PySem.W PySem.Calls PyProof.Rows
set_option maxHeartbeats 0 in
theorem PySem.Challenge.cw_stagebelt_k05_whole_plain_holds : PySem.Challenge.rw_stagebelt_k05_whole_plain.Holds := by
  w_on; o_law
  refine HandSHeadRun.head_any (r := OpenLaw.row PySem.Challenge.rw_stagebelt_k05_whole_plain) (q := view (OpenLaw.row PySem.Challenge.rw_stagebelt_k05_whole_plain).prog [56]) (H := MP.hk) (ob := MP.ob) (M := MP.STEPS) (loose := MP.LOOSE) (d := HandSHeadRun.topDef (OpenLaw.row PySem.Challenge.rw_stagebelt_k05_whole_plain).prog 56) (kwd := []) MP.ob_eq
    (by kernel_rfl) (fun s => by kernel_rfl) MP.run (by kernel_rfl) (by kernel_rfl) (by kernel_rfl) (by rfl) (by first | assumption | decide +kernel) (by decide +kernel) ⟨rfl, rfl, rfl, rfl, rfl, by decide +kernel⟩ ?hw ?hc
  case hw => w_witness2
  case hc =>
    refine LamX.walk_ofTsE (l := PySem.Challenge.rw_stagebelt_k05_whole_plain) (n := 63) (k := MP.LVL) (x := "_law_script") (CX := fun w => L2.CX (PySem.Challenge.rw_stagebelt_k05_whole_plain).prog w) rfl (by decide) (by kernel_rfl) ⟨rfl, by decide, by decide⟩ ?F ?S
    case F =>
      intro w mg fa h Y G hmg0
      obtain ⟨K, KX, c⟩ := Y
      have hmg : mg ("law" : PySem.Str) = some (.ref fa) := by
        have e : (HandSHeadRun.topDef (OpenLaw.row PySem.Challenge.rw_stagebelt_k05_whole_plain).prog 56).name = ("law" : PySem.Str) := by kernel_rfl
        rw [← e]
        exact hmg0
      exact ⟨K, KX, MP.law_at KX G hmg c⟩
    case S =>
      rintro w H s e s' ⟨_, _, _, _, _, _, _, _, _, _, _, _, z⟩
      exact z

