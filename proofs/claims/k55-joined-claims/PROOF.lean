import PyProof.Rows.All
import Wide.All
import OpenK.AllK
import Wide.FinOn
import KE.GoesMore
import PyProof.Draws
import PyProof.EnumMake
import HandS.Base
import HandS.Call
import HandS.List
import HandS.Iter
import KE.KTupSum
import HandS.ForMost
import KE.KeyNested
import KE.KDictKeyed
import HandS.Dict
import HandS.Conv
import HandS.TupLen
import PyProof.Rows.SetFrom
import HandS.SetKeys
import KE.GoesZip
import KE.KDictPairs
import HandS.Zip
import HandS.TupAny
import HandS.TupMul
import HandS.HotCalls
import HandS.Strs
import HandS.Set
import HandS.TupSets
import KE.KDictSum
import KE.KDictCopyH
import KE.DataMinMax
import KE.SortData
import HandS.SortKw
import HandS.Style
import HandS.Exc
import HandS.ExcCtx
import HandS.ExcOwn
import HandS.SuiteRaise
import HandS.RaiseFrom
import HandS.Flow
import HandS.Deep
import HandS.IsInst
import HandS.SortInts
import HandS.Wide
import KE.KDictZip
import HandS.MapObj
import PyProof.ListNew
import HandS.Text
import HandS.FStr
import HandS.Comp
import HandS.FStrTup
import HandS.RaiseMore
import PyProof.ReprNest
import PyProof.CallStr
import PyProof.ReprRoads
import KE.GoesComp
import KE.GoesRaise
import PyProof.Rows.SortShellAny
import KE.DataCmp
import KE.KEqDict
import HandS.More
import HandS.ForExc
import HandS.CallSlots
import HandS.ExcIs
import HandS.HeadHook1
import HandS.Defaults
import HandS.Ends
import HandS.Words
import HandS.WordsExc
import HandS.Head0
import HandS.Head1
import HandS.Head2
import HandS.HeadEnd
import HandS.HeadHook2
import HandS.HeadHook4
import PySem.Challenge.RW_warnloop_k55_joined_claims
set_option Elab.async false
set_option linter.all false
set_option maxRecDepth 100000
set_option maxHeartbeats 4000000
section
set_option Elab.async false
set_option linter.all false
set_option maxRecDepth 100000
set_option maxHeartbeats 4000000
end

section
set_option Elab.async false
set_option linter.all false
set_option maxRecDepth 100000
set_option maxHeartbeats 4000000
end

section
set_option Elab.async false
set_option linter.all false
set_option maxRecDepth 100000
set_option maxHeartbeats 4000000
end

section
set_option Elab.async false
set_option linter.all false
set_option maxRecDepth 100000
set_option maxHeartbeats 4000000
namespace Mn
open PySem PySem.Spec PyProof.Rows L2
abbrev XE := NestedKey × Addr × V
abbrev YE := NestedKey × Addr × Value
def SameX : XE → YE → Prop := fun p q => p.1 = q.1 ∧ p.2.1 = q.2.1 ∧ RelV p.2.2 q.2.2
abbrev RX : List XE → List YE → Prop := Paired SameX
def rawE (w : World) (x : YE) : DictEntry := ⟨x.1.hash w, .ref x.2.1, x.2.2⟩
/-- the dict at a, by its raw entries: keys, where they stand, values -/
def DtO (w : World) (a : Addr) (xs : List XE) : HO := .ext fun h => ∃ (ys : List YE) (o : Obj) (es : Array DictEntry) (ep : Nat), RX xs ys ∧ h.get? a = some o ∧ o.ExactDict ∧ o.data = .dict es ep ∧ es.toList = ys.map (rawE w)
structure DtAt (w : World) (H : Hp) (a : Addr) (xs : List XE) : Prop where
  on : H a = some (DtO w a xs)
  sys : (a == sysModules) = false
  nd : (xs.map (·.1)).Nodup
  sz : xs.length ≤ sizeLine
section
variable {X : Cx} {pins : List (Addr × Obj)} {σ : L2.St} {H : Hp} {s : Shared} {a b : Addr} {xs : List XE} {k : NestedKey} {A : Around} {E : Value → Shared → Prop}
/-- at a stands, now, a dict of these entries -/
structure DtNow (X : Cx) (H : Hp) (h : Heap) (a : Addr) (xs : List XE) : Prop where
  d : ∃ ys, RX xs ys ∧ h.DictOfH (nestedKind X.prog X.w) a ys
  sys : (a == sysModules) = false
  sz : xs.length ≤ sizeLine
  mu : Mut (H a)
end
end Mn
end

section
set_option Elab.async false
set_option linter.all false
set_option maxRecDepth 100000
set_option maxHeartbeats 4000000
end

section
set_option Elab.async false
set_option linter.all false
set_option maxRecDepth 100000
set_option maxHeartbeats 4000000
end

section
set_option Elab.async false
set_option linter.all false
set_option maxRecDepth 100000
set_option maxHeartbeats 4000000
namespace Mn
open PySem PySem.Spec PyProof.Rows L2
inductive Sc where | lst (a : Addr) | tup (a : Addr) | txt (z : Str)
def Sc.v : Sc → V
  | .lst a => .ref a
  | .tup a => .ref a
  | .txt z => .str z
def Sc.has (K : PySem.W.Frag) (H : Hp) : Sc → List V → Prop
  | .lst a, xs => SqL K H a xs
  | .tup a, xs => SqT K H a xs
  | .txt z, xs => xs = z.cps.toList.map fun c => V.str ⟨#[c]⟩
def Sc.on (h : Heap) (it : Addr) (i : Nat) : Sc → Prop
  | .lst a => h.IsListIter it a i
  | .tup a => h.IsTupleIter it a i
  | .txt z => ∃ t, h.IsStrIter it (strIterType z) z t i
def Solid (K : PySem.W.Frag) (H : Hp) (a : Addr) (vs : List V) : Prop := (∃ o, H a = some (.frz o (.tup vs)) ∧ o.dict = none) ∨
  ∃ (o : Obj) (its : Array Value) (n : Nat), K.lookup a = some o ∧ o.cls = .type "tuple" ∧ o.dict = none ∧ o.data = .seq its n ∧ its.size ≤ sizeLine ∧ Vals vs its.toList
end Mn
end

section
set_option Elab.async false
set_option linter.all false
set_option maxRecDepth 100000
set_option maxHeartbeats 4000000
end

section
set_option Elab.async false
set_option linter.all false
set_option maxRecDepth 100000
set_option maxHeartbeats 4000000
end

section
set_option Elab.async false
set_option linter.all false
set_option maxRecDepth 100000
set_option maxHeartbeats 4000000
end

section
set_option Elab.async false
set_option linter.all false
set_option maxRecDepth 100000
set_option maxHeartbeats 4000000
end

section
set_option Elab.async false
set_option linter.all false
set_option maxRecDepth 100000
set_option maxHeartbeats 4000000
namespace Mn
open PySem PySem.Spec PyProof.Rows L2
def CXk (S : Value → Prop) (P : Program) (w : World) : CXT := fun outer H s E u s2 => L2N.CX P w outer H s E u s2 ∨ L2.CX P w outer H s (fun c d H2 => S c ∧ E c d H2) u s2
end Mn
end

section
set_option Elab.async false
set_option linter.all false
set_option maxRecDepth 100000
set_option maxHeartbeats 4000000
end

section
set_option autoImplicit false
set_option linter.all false
set_option maxRecDepth 100000
namespace Mn
/-- data: tuples by their items, all that changes by its address; lst is a list that never changes (the script), or one looked up; exc: a handled exception, where it stands, its class -/
inductive D where
  | non | bl (b : Bool) | int (i : Int) | str (s : List Nat) | tup (ds : List D) | lst (ds : List D) | ref (a : Nat) | exc (a c : Nat)
  deriving Inhabited
abbrev Ky := Sum Int (List Nat)
/-- what stands at an address -/
inductive MO where
  | lst (ds : List D) | dK (kvs : List (Ky × D)) | dT (kvs : List (List D × D)) | set (ds : List D)
  | ins (c : Nat) (fs : List (Nat × D)) | exc (c : Nat)
  /-- a dict that is being walked -/
  | fz (kvs : List (Ky × D))
  | fzT (kvs : List (List D × D))
abbrev Hm := Nat → Option MO
def up (m : Hm) (a : Nat) (o : MO) : Hm := fun b => if b = a then some o else m b
abbrev Env := List (Option D)
def SZ : Nat := 16777216
def vget : Env → Nat → Option D
  | [], _ => none
  | x :: _, 0 => x
  | _ :: t, n + 1 => vget t n
inductive Bop where | add | sub | mul | fdiv | mod | pow
  deriving DecidableEq
inductive Cop where | eq | ne | lt | le | gt | ge | is_ | isn | in_ | nin
  deriving DecidableEq
inductive Ty where | int | bool | str | tuple | list | dict | own (c : Nat) | verr
  deriving DecidableEq
inductive Bf where | len | abs | int | str | ord | min | max | sum | all | any | sorted | list | tuple | dict | set
  deriving DecidableEq
/-- calls within one another, taken as one -/
inductive Fu where | lenT | sortN
  deriving DecidableEq
inductive Bm where | append | extend | pop | insert | reverse | clear | index | count | get | setdefault | values | join | partition | split | startswith | upper | replace
  deriving DecidableEq
mutual
inductive E where
  | var (i : Nat) | non | bl (b : Bool) | num (i : Int) | txt (s : List Nat) | glob (x : Nat) (d : D)
  | bin (op : Bop) (a b : E) | neg (a : E)
  | cmp (op : Cop) (a b : E) | cmp2 (op op2 : Cop) (a b c : E)
  | and_ (es : Es) | or_ (es : Es) | not_ (a : E) | ifx (t a b : E)
  | call (f : Nat) (es : Es) | meth (m : Nat) (o : E) (es : Es) | make (c : Nat) (es : Es)
  | bcall (b : Bf) (es : Es) | bmeth (b : Bm) (o : E) (es : Es)
  | isin (a : E) (ts : List Ty)
  | attr (f : Nat) (o : E) | idx (a i : E) | slc (a : E) (lo hi : O) | rev (a : E)
  | tup (es : Es) | lst (es : Es) | dctK | lenS (e : E)
  | fus (f : Fu) (es : Es)
  | comp (elt : E) (tg : T) (it : I) (cond : O) (own : List Nat) | compD (elt : E) (tg : T) (e : E) (cond : O) (own : List Nat)
inductive Es where | nil | cons (e : E) (es : Es)
inductive O where | no | yes (e : E)
inductive I where | val (e : E) | rng (es : Es) | enum (e : E) | zip (a b : E)
inductive T where | nm (i : Nat) | tp (ts : Ts) | at_ (f : Nat) (o : E) | sb (o i : E)
inductive Ts where | nil | cons (t : T) (ts : Ts)
end
mutual
inductive S where
  | pass | ex (e : E) | asg (t : T) (e : E) | aug (t : T) (op : Bop) (e : E) | ife (c : E) (a b : Ss) | fr (t : T) (it : I) (b : Ss)
  | whl (c : E) (b : Ss) | brk | cnt | ret (e : E) | ret0 | rais (c : Nat) | nev
inductive Ss where | nil | cons (s : S) (ss : Ss)
end
mutual
def D.eqv : D → D → Bool
  | .non, y => match y with | .non => true | _ => false
  | .bl a, y => match y with | .bl b => a == b | .int j => (if a then 1 else 0) == j | _ => false
  | .int i, y => match y with | .int j => i == j | .bl b => i == (if b then 1 else 0) | _ => false
  | .str s, y => match y with | .str t => s == t | _ => false
  | .tup xs, y => match y with | .tup ys => D.eqvs xs ys | _ => false
  | .lst xs, y => match y with | .lst ys => D.eqvs xs ys | _ => false
  | .ref _, _ => false
  | .exc _ _, _ => false
def D.eqvs : List D → List D → Bool
  | [], ys => ys.isEmpty
  | x :: xs, ys => match ys with | [] => false | y :: ys => D.eqv x y && D.eqvs xs ys
end
mutual
/-- no list within, texts of plain signs, no deeper than n -/
def D.flat : Nat → D → Bool
  | _, .non => true
  | _, .bl _ => true
  | _, .int _ => true
  | _, .str s => s.all (· < 1114112)
  | n, .tup ds => match n with | 0 => false | k + 1 => D.flats k ds
  | _, .lst _ => false
  | _, .ref _ => false
  | _, .exc _ _ => false
def D.flats : Nat → List D → Bool
  | _, [] => true
  | n, d :: ds => D.flat n d && D.flats n ds
end
mutual
/-- of depth at most n, texts of plain signs, no address left -/
def D.shp : Nat → D → Bool
  | _, .non => true
  | _, .bl _ => true
  | _, .int _ => true
  | _, .str s => s.all (· < 1114112)
  | n, .tup ds => match n with | 0 => false | k + 1 => D.shps k ds
  | n, .lst ds => match n with | 0 => false | k + 1 => D.shps k ds
  | _, .ref _ => false
  | _, .exc _ _ => false
def D.shps : Nat → List D → Bool
  | _, [] => true
  | n, d :: ds => D.shp n d && D.shps n ds
end
mutual
/-- lists looked up -/
inductive Res (m : Hm) : D → D → Prop where
  | non : Res m .non .non
  | bl (b : Bool) : Res m (.bl b) (.bl b)
  | int (i : Int) : Res m (.int i) (.int i)
  | str (s : List Nat) : Res m (.str s) (.str s)
  | tup {ds es : List D} : Ress m ds es → Res m (.tup ds) (.tup es)
  | lst {ds es : List D} : Ress m ds es → Res m (.lst ds) (.lst es)
  | ref {a : Nat} {ds es : List D} : m a = some (.lst ds) → Ress m ds es → Res m (.ref a) (.lst es)
inductive Ress (m : Hm) : List D → List D → Prop where
  | nil : Ress m [] []
  | cons {d e : D} {ds es : List D} : Res m d e → Ress m ds es → Ress m (d :: ds) (e :: es)
end
mutual
/-- the same -/
def D.beq : D → D → Bool
  | .non, y => match y with | .non => true | _ => false
  | .bl a, y => match y with | .bl b => a == b | _ => false
  | .int i, y => match y with | .int j => decide (i = j) | _ => false
  | .str s, y => match y with | .str t => decide (s = t) | _ => false
  | .tup xs, y => match y with | .tup ys => D.beqs xs ys | _ => false
  | .lst xs, y => match y with | .lst ys => D.beqs xs ys | _ => false
  | .ref a, y => match y with | .ref b => decide (a = b) | _ => false
  | .exc a c, y => match y with | .exc b d => decide (a = b) && decide (c = d) | _ => false
def D.beqs : List D → List D → Bool
  | [], ys => ys.isEmpty
  | x :: xs, ys => match ys with | [] => false | y :: ys => D.beq x y && D.beqs xs ys
end
mutual
theorem beq_eq : ∀ {x y : D}, D.beq x y = true → x = y
  | .non, y, h => by cases y <;> simp_all [D.beq]
  | .bl a, y, h => by cases y <;> simp_all [D.beq]
  | .int a, y, h => by cases y <;> simp_all [D.beq]
  | .str a, y, h => by cases y <;> simp_all [D.beq]
  | .tup a, y, h => by
    cases y with
    | tup b => rw [beqs_eq (x := a) (y := b) (by simpa only [D.beq] using h)]
    | _ => simp [D.beq] at h
  | .lst a, y, h => by
    cases y with
    | lst b => rw [beqs_eq (x := a) (y := b) (by simpa only [D.beq] using h)]
    | _ => simp [D.beq] at h
  | .ref a, y, h => by cases y <;> simp_all [D.beq]
  | .exc a c, y, h => by cases y <;> simp_all [D.beq]
theorem beqs_eq : ∀ {x y : List D}, D.beqs x y = true → x = y
  | [], [], _ => rfl
  | [], _ :: _, h => by simp [D.beqs] at h
  | _ :: _, [], h => by simp [D.beqs] at h
  | a :: x, b :: y, h => by
    simp only [D.beqs, Bool.and_eq_true] at h
    rw [beq_eq h.1, beqs_eq h.2]
end
mutual
theorem beq_refl : ∀ x : D, D.beq x x = true
  | .non => by simp [D.beq]
  | .bl a => by simp [D.beq]
  | .int a => by simp [D.beq]
  | .str a => by simp [D.beq]
  | .tup a => by simp only [D.beq]; exact beqs_refl a
  | .lst a => by simp only [D.beq]; exact beqs_refl a
  | .ref a => by simp [D.beq]
  | .exc a c => by simp [D.beq]
theorem beqs_refl : ∀ x : List D, D.beqs x x = true
  | [] => by simp [D.beqs]
  | a :: x => by simp [D.beqs, beq_refl a, beqs_refl x]
end
instance : DecidableEq D := fun x y => if h : D.beq x y = true then .isTrue (beq_eq h) else .isFalse fun e => h (e ▸ beq_refl x)
mutual
/-- a part of a key: ints, texts, tuples of these, no deeper than n -/
def D.keyd : Nat → D → Bool
  | _, .int _ => true
  | _, .str _ => true
  | n, .tup ds => match n with | 0 => false | k + 1 => D.keyds k ds
  | _, _ => false
def D.keyds : Nat → List D → Bool
  | _, [] => true
  | n, d :: ds => D.keyd n d && D.keyds n ds
end
def scalD : D → Bool
  | .non => true | .bl _ => true | .int _ => true | .str _ => true | _ => false
def getL (m : Hm) (a : Nat) : Option (List D) := match m a with | some (.lst xs) => some xs | _ => none
def truth (m : Hm) : D → Option Bool
  | .non => some false
  | .bl b => some b
  | .int i => some (i != 0)
  | .str s => if s.length ≤ SZ then some (!s.isEmpty) else none
  | .tup ds => some (!ds.isEmpty)
  | .lst ds => some (!ds.isEmpty)
  | .ref a => match m a with
    | some (.lst xs) => some (!xs.isEmpty)
    | some (.dK xs) => some (!xs.isEmpty)
    | _ => none
  | .exc _ _ => none
def ixN (n : Nat) (i : Int) : Option Nat := if 0 ≤ i then (if i < n then some i.toNat else none) else if -(n : Int) ≤ i then some (i + n).toNat else none
def atI {α : Type} (xs : List α) (i : Int) : Option α := (ixN xs.length i).bind fun j => xs[j]?
def sIx (n d : Nat) : Option Int → Nat
  | none => d
  | some v => if v < 0 then (v + n).toNat else min v.toNat n
def cut {α : Type} (xs : List α) (lo hi : Option Int) : List α := (xs.drop (sIx xs.length 0 lo)).take (sIx xs.length xs.length hi - sIx xs.length 0 lo)
def tyIs (m : Hm) (d : D) (t : Ty) : Option Bool := match d with
  | .non => some false
  | .bl _ => some (match t with | .int => true | .bool => true | _ => false)
  | .int _ => some (match t with | .int => true | _ => false)
  | .str _ => some (match t with | .str => true | _ => false)
  | .tup _ => some (match t with | .tuple => true | _ => false)
  | .lst _ => some (match t with | .list => true | _ => false)
  | .ref a => match m a with
    | some (.lst _) => some (match t with | .list => true | _ => false)
    | some (.dK _) => some (match t with | .dict => true | _ => false)
    | _ => none
  | .exc _ _ => none
def tyAny (m : Hm) (d : D) : List Ty → Option Bool
  | [] => some false
  | t :: ts => match tyIs m d t with
    | some true => some true
    | some false => tyAny m d ts
    | none => none
def kyOf : D → Option Ky
  | .int i => some (.inl i)
  | .str s => some (.inr s)
  | _ => none
def kysOf : List D → Option (List Ky)
  | [] => some []
  | d :: ds => match kyOf d, kysOf ds with | some k, some ks => some (k :: ks) | _, _ => none
def dOf : Ky → D
  | .inl i => .int i
  | .inr s => .str s
section
variable {κ : Type} [DecidableEq κ]
def look (kvs : List (κ × D)) (k : κ) : Option D := (kvs.find? fun kv => decide (kv.1 = k)).map (·.2)
def putk (kvs : List (κ × D)) (k : κ) (v : D) : List (κ × D) := if (kvs.any fun kv => decide (kv.1 = k)) = true then kvs.map fun kv => if kv.1 = k then (kv.1, v) else kv else kvs ++ [(k, v)]
def dropk (kvs : List (κ × D)) (k : κ) : List (κ × D) := kvs.filter fun kv => decide (kv.1 ≠ k)
end
/-- what a dict at a tells of the key d: none, where it may not be asked so -/
def dget (m : Hm) (a : Nat) (d : D) : Option (Option D) := match m a, d with
  | some (.dK kvs), .int i => some (look kvs (.inl i))
  | some (.dK kvs), .str s => some (look kvs (.inr s))
  | some (.dK []), .tup ks => if D.keyds 7 ks = true then some none else none
  | some (.dT kvs), .tup ks => if D.keyds 7 ks = true then some (look kvs ks) else none
  | some (.fz kvs), .int i => some (look kvs (.inl i))
  | some (.fz kvs), .str s => some (look kvs (.inr s))
  | _, _ => none
def dput (m : Hm) (a : Nat) (d v : D) : Option MO := match m a, d with
  | some (.dK kvs), .int i => if kvs.length < SZ then some (.dK (putk kvs (.inl i) v)) else none
  | some (.dK kvs), .str s => if kvs.length < SZ then some (.dK (putk kvs (.inr s) v)) else none
  | some (.dK []), .tup ks => if D.keyds 7 ks = true then some (.dT [(ks, v)]) else none
  | some (.dT kvs), .tup ks => if D.keyds 7 ks = true ∧ kvs.length < SZ then some (.dT (putk kvs ks v)) else none
  | _, _ => none
abbrev PD := D → Hm → Prop
/-- the unlike ones, first come -/
def unlL {α : Type} [DecidableEq α] (l : List α) : List α := l.foldl (fun acc x => if x ∈ acc then acc else acc ++ [x]) []
/-- a new object -/
def newO (m : Hm) (o : MO) (P : PD) : Prop := ∀ p, m p = none → P (.ref p) (up m p o)
/-- a dict's pairs, one by one, in another's -/
def eqKs (l2 : List (Ky × D)) : List (Ky × D) → Bool
  | [] => true
  | kv :: r => match look l2 kv.1 with | some w => D.eqv kv.2 w && eqKs l2 r | none => false
def eqK (k1 k2 : List (Ky × D)) : Bool := (k1.length == k2.length) && eqKs k2 k1
/-- two dicts of plain values -/
def eqDk (x y : D) (neg : Bool) (m : Hm) (P : PD) : Prop := match x, y with
  | .ref a, .ref b => match m a, m b with
    | some (.dK k1), some (.dK k2) => (k1.all fun kv => D.flat 60 kv.2) = true ∧ (k2.all fun kv => D.flat 60 kv.2) = true ∧ P (.bl (xor neg (eqK k1 k2))) m
    | _, _ => False
  | _, _ => False
def eqW (x y : D) (neg : Bool) (m : Hm) (P : PD) : Prop :=
  if scalD x && scalD y then P (.bl (xor neg (D.eqv x y))) m
  else (∃ x2 y2, Res m x x2 ∧ Res m y y2 ∧ D.shp 60 x2 = true ∧ D.shp 60 y2 = true ∧ P (.bl (xor neg (D.eqv x2 y2))) m) ∨ eqDk x y neg m P
def intsOf : List D → Option (List Int)
  | [] => some []
  | d :: ds => match d, intsOf ds with | .int i, some r => some (i :: r) | _, _ => none
def natLt : List Nat → List Nat → Bool
  | _, [] => false
  | [], _ :: _ => true
  | x :: xs, y :: ys => if x = y then natLt xs ys else decide (x < y)
mutual
/-- may be compared, place by place -/
def D.alike : D → D → Bool
  | .bl _, y => match y with | .bl _ => true | _ => false
  | .int _, y => match y with | .int _ => true | _ => false
  | .str _, y => match y with | .str _ => true | _ => false
  | .tup xs, y => match y with | .tup ys => D.alikes xs ys | _ => false
  | _, _ => false
def D.alikes : List D → List D → Bool
  | [], _ => true
  | x :: xs, ys => match ys with | [] => true | y :: ys => D.alike x y && D.alikes xs ys
end
mutual
/-- x < y -/
def D.lt : D → D → Bool
  | .bl a, y => match y with | .bl b => !a && b | _ => false
  | .int i, y => match y with | .int j => decide (i < j) | _ => false
  | .str s, y => match y with | .str t => natLt s t | _ => false
  | .tup xs, y => match y with | .tup ys => D.lts xs ys | _ => false
  | _, _ => false
def D.lts : List D → List D → Bool
  | [], ys => !ys.isEmpty
  | x :: xs, ys => match ys with | [] => false | y :: ys => if D.eqv x y = true then D.lts xs ys else D.lt x y
end
def leD (x y : D) : Bool := !D.lt y x
def isTupD : D → Bool
  | .tup ds => !ds.isEmpty
  | _ => false
def isStrD : D → Bool
  | .str _ => true
  | _ => false
/-- a list that sorts by its items: texts, or tuples that are none empty, comparable, no lists within -/
def sortable (ds : List D) : Bool := (ds.all isTupD || ds.all isStrD) && ds.all (fun x => ds.all fun y => D.alike x y) && D.flats 59 ds && decide (ds.length ≤ SZ)
def cmpOk (xs ys : List D) : Bool := D.alikes xs ys && D.flats 59 xs && D.flats 59 ys
def ordW (op : Cop) (x y : D) (m : Hm) (P : PD) : Prop := match op, x, y with
  | .lt, .int i, .int j => P (.bl (decide (i < j))) m
  | .le, .int i, .int j => P (.bl (decide (i ≤ j))) m
  | .gt, .int i, .int j => P (.bl (decide (j < i))) m
  | .ge, .int i, .int j => P (.bl (decide (j ≤ i))) m
  | .lt, .str s, .str t => P (.bl (natLt s t)) m
  | .le, .str s, .str t => P (.bl (!natLt t s)) m
  | .gt, .str s, .str t => P (.bl (natLt t s)) m
  | .ge, .str s, .str t => P (.bl (!natLt s t)) m
  | .lt, .tup s, .tup t => cmpOk s t = true ∧ P (.bl (D.lts s t)) m
  | .le, .tup s, .tup t => cmpOk s t = true ∧ P (.bl (!D.lts t s)) m
  | .gt, .tup s, .tup t => cmpOk s t = true ∧ P (.bl (D.lts t s)) m
  | .ge, .tup s, .tup t => cmpOk s t = true ∧ P (.bl (!D.lts s t)) m
  | _, _, _ => False
def isW (x y : D) (neg : Bool) (m : Hm) (P : PD) : Prop := match x, y with
  | .bl a, .bl b => P (.bl (xor neg (a == b))) m
  | x, .non => P (.bl (xor neg (match x with | .non => true | _ => false))) m
  | .ref a, .ref b => match m a, m b with
    | some (.lst _), some (.lst _) => P (.bl (xor neg (a == b))) m
    | some (.ins _ _), some (.ins _ _) => P (.bl (xor neg (a == b))) m
    | _, _ => False
  | _, _ => False
def inW (x y : D) (neg : Bool) (m : Hm) (P : PD) : Prop := match y with
  | .tup ds => (scalD x && ds.all scalD || D.flat 58 x && D.flats 58 ds) = true ∧ P (.bl (xor neg (ds.any fun z => D.eqv z x))) m
  | .str t => match x with | .str [c] => P (.bl (xor neg (t.contains c))) m | _ => False
  | .ref a => match m a with
    | some (.lst ds) => ∃ x2 ds2, Res m x x2 ∧ Ress m ds ds2 ∧ D.shp 60 x2 = true ∧ D.shps 60 ds2 = true ∧ P (.bl (xor neg (ds2.any fun z => D.eqv z x2))) m
    | some (.dK _) => ∃ o, dget m a x = some o ∧ P (.bl (xor neg o.isSome)) m
    | some (.dT _) => ∃ o, dget m a x = some o ∧ P (.bl (xor neg o.isSome)) m
    | some (.fz _) => ∃ o, dget m a x = some o ∧ P (.bl (xor neg o.isSome)) m
    | _ => False
  | _ => False
def cmpW (op : Cop) (x y : D) (m : Hm) (P : PD) : Prop := match op with
  | .eq => eqW x y false m P
  | .ne => eqW x y true m P
  | .is_ => isW x y false m P
  | .isn => isW x y true m P
  | .in_ => inW x y false m P
  | .nin => inW x y true m P
  | .lt => ordW .lt x y m P
  | .le => ordW .le x y m P
  | .gt => ordW .gt x y m P
  | .ge => ordW .ge x y m P
def mulOk (i j : Int) : Bool := decide ((-(2 ^ 64) < i ∧ i < 2 ^ 64) ∨ (-(2 ^ 64) < j ∧ j < 2 ^ 64) ∨ i.natAbs.log2 + j.natAbs.log2 < 1000000)
def repD {α : Type} (xs : List α) (k : Nat) : List α := (List.replicate k xs).flatten
def binW (op : Bop) (x y : D) (m : Hm) (P : PD) : Prop := match op, x, y with
  | .add, .int i, .int j => P (.int (i + j)) m
  | .add, .str s, .str t => s.length + t.length ≤ SZ ∧ P (.str (s ++ t)) m
  | .add, .tup a, .tup b => a.length + b.length ≤ SZ ∧ P (.tup (a ++ b)) m
  | .add, .ref a, .ref b => match m a, m b with
    | some (.lst xs), some (.lst ys) => xs.length + ys.length ≤ SZ ∧ newO m (.lst (xs ++ ys)) P
    | _, _ => False
  | .add, .bl b, .int j => P (.int ((if b then 1 else 0) + j)) m
  | .add, .int i, .bl b => P (.int (i + (if b then 1 else 0))) m
  | .sub, .bl b, .int j => P (.int ((if b then 1 else 0) - j)) m
  | .sub, .int i, .int j => P (.int (i - j)) m
  | .mul, .int i, .int j => mulOk i j = true ∧ P (.int (i * j)) m
  | .mul, .ref a, .int k => match m a with
    | some (.lst xs) => (-(2 ^ 63) ≤ k ∧ k < 2 ^ 63) ∧ xs.length * k.toNat ≤ SZ ∧ newO m (.lst (repD xs k.toNat)) P
    | _ => False
  | .mul, .tup ds, .int k => ds ≠ [] ∧ -1000 ≤ k ∧ k ≤ 1000 ∧ k ≠ 1 ∧ ds.length ≤ 1000 ∧ P (.tup (repD ds k.toNat)) m
  | .mul, .str s, .int k => (-(2 ^ 63) ≤ k ∧ k < 2 ^ 63) ∧ s.length * k.toNat ≤ SZ ∧ P (.str (repD s k.toNat)) m
  | .fdiv, .int i, .int j => (j ≠ 0 ∧ (j.natAbs < 1073741824 ∨ (0 < j ∧ j.natAbs.log2 < 9000))) ∧ P (.int (i.fdiv j)) m
  | .mod, .int i, .int j => j ≠ 0 ∧ P (.int (i.fmod j)) m
  | .pow, .int i, .int j => (0 ≤ j ∧ j ≤ 1000000 ∧ i.natAbs < 2 ^ 64) ∧ P (.int (i ^ j.toNat)) m
  | _, _, _ => False
/-- what a dict with tuples for keys tells while it is walked -/
def zget (m : Hm) (a : Nat) (ks : List D) : Option D := match m a with
  | some (.fzT kvs) => if D.keyds 7 ks = true then look kvs ks else none
  | _ => none
def ixW (x y : D) (m : Hm) (P : PD) : Prop := match x, y with
  | .tup ds, .int i => ∃ d, atI ds i = some d ∧ P d m
  | .lst ds, .int i => ∃ d, atI ds i = some d ∧ P d m
  | .str s, .int i => s.length ≤ SZ ∧ ∃ c, atI s i = some c ∧ P (.str [c]) m
  | .ref a, .int i => match m a with
    | some (.lst xs) => ∃ d, atI xs i = some d ∧ P d m
    | some (.dK kvs) => ∃ d, look kvs (.inl i) = some d ∧ P d m
    | some (.fz kvs) => ∃ d, look kvs (.inl i) = some d ∧ P d m
    | _ => False
  | .ref a, .tup ks => ∃ d, (dget m a (.tup ks) = some (some d) ∨ zget m a ks = some d) ∧ P d m
  | .ref a, y => ∃ d, dget m a y = some (some d) ∧ P d m
  | _, _ => False
def slW (x : D) (lo hi : Option Int) (m : Hm) (P : PD) : Prop := match x with
  | .tup ds => P (.tup (cut ds lo hi)) m
  | .lst ds => newO m (.lst (cut ds lo hi)) P
  | .str s => s.length ≤ SZ ∧ P (.str (cut s lo hi)) m
  | .ref a => match getL m a with
    | some xs => newO m (.lst (cut xs lo hi)) P
    | none => False
  | _ => False
def revW (x : D) (m : Hm) (P : PD) : Prop := match x with
  | .tup ds => P (.tup ds.reverse) m
  | .ref a => match getL m a with
    | some xs => newO m (.lst xs.reverse) P
    | none => False
  | _ => False
def blsOf : List D → Option (List Bool)
  | [] => some []
  | d :: ds => match d, blsOf ds with | .bl i, some r => some (i :: r) | _, _ => none
def maxI : List Int → Int
  | [] => 0
  | [x] => x
  | x :: xs => if maxI xs ≤ x then x else maxI xs
def minI : List Int → Int
  | [] => 0
  | [x] => x
  | x :: xs => if x ≤ minI xs then x else minI xs
def digitsT (i : Int) : List Nat := (toString i).toList.map Char.toNat
def digB (c : Nat) : Bool := decide (48 ≤ c) && decide (c ≤ 57)
/-- a text of one or two figures, as a number -/
def numT : List Nat → Option Int
  | [a] => if digB a = true then some ((a - 48 : Nat) : Int) else none
  | [a, b] => if (digB a && digB b) = true then some ((10 * (a - 48) + (b - 48) : Nat) : Int) else none
  | _ => none
def boolT (b : Bool) : List Nat := if b then [84, 114, 117, 101] else [70, 97, 108, 115, 101]
def preT (S l : List Nat) : Bool := l.take S.length == S
/-- cut at each S; k signs are still to be passed over -/
def splT (S : List Nat) : Nat → List Nat → List Nat → List (List Nat)
  | _, acc, [] => [acc]
  | 0, acc, c :: r => if preT S (c :: r) = true then acc :: splT S (S.length - 1) [] r else splT S 0 (acc ++ [c]) r
  | k + 1, acc, _ :: r => splT S k acc r
/-- ahead of the first S, and behind it -/
def parT (S : List Nat) : List Nat → List Nat → Option (List Nat × List Nat)
  | _, [] => none
  | acc, c :: r => if preT S (c :: r) = true then some (acc, (c :: r).drop S.length) else parT S (acc ++ [c]) r
def par3 (s t : List Nat) : List D := match parT t [] s with
  | some (a, b) => [.str a, .str t, .str b]
  | none => [.str s, .str [], .str []]
def upC (c : Nat) : Nat := if 97 ≤ c ∧ c ≤ 122 then c - 32 else c
/-- the most signs that a tuple's own text may come to -/
def pilN (Ns : List Nat) : Nat := (Ns.map (· + 2)).sum
mutual
def shwN : Nat → D → Option Nat
  | _, .int i => if i.natAbs.log2 < 1920 then some (digitsT i).length else none
  | _, .str s => if s.all (· < 4294967296) = true ∧ s.length ≤ 1000 then some (10 * s.length + 2) else none
  | n, .tup ds => match n with | 0 => none | k + 1 => (shwL k ds).map fun Ns => pilN Ns + 7
  | _, .non => none
  | _, .bl _ => none
  | _, .lst _ => none
  | _, .ref _ => none
  | _, .exc _ _ => none
def shwL : Nat → List D → Option (List Nat)
  | _, [] => some []
  | n, d :: ds => match shwN n d, shwL n ds with | some k, some r => some (k :: r) | _, _ => none
end
/-- a text or a number, written -/
def fmtD : D → Option (List Nat)
  | .str s => if s.length ≤ SZ then some s else none
  | .int i => if i.natAbs.log2 < 1920 then some (digitsT i) else none
  | _ => none
def seqOf (m : Hm) : D → Option (List D)
  | .tup ds => some ds
  | .lst ds => some ds
  | .ref a => match m a with
    | some (.lst ds) => some ds
    | some (.dK kvs) => some (kvs.map fun kv => dOf kv.1)
    | some (.dT kvs) => some (kvs.map fun kv => .tup kv.1)
    | _ => none
  | _ => none
/-- keys with values, out of pairs -/
def pairsOf : List D → Option (List (Ky × D))
  | [] => some []
  | d :: ds => match d with
    | .tup [k, v] => (match kyOf k, pairsOf ds with | some j, some r => some ((j, v) :: r) | _, _ => none)
    | _ => none
def pairsT : List D → Option (List (List D × D))
  | [] => some []
  | d :: ds => match d with
    | .tup [.tup ks, v] => if D.keyds 7 ks = true then (match pairsT ds with | some r => some ((ks, v) :: r) | none => none) else none
    | _ => none
def mergeT (kvs : List (List D × D)) : List (List D × D) := kvs.foldl (fun acc kv => putk acc kv.1 kv.2) []
/-- dict of such items -/
def dictW (ds : List D) (m : Hm) (P : PD) : Prop := match pairsOf ds with
  | some kvs => newO m (.dK (kvs.foldl (fun acc kv => putk acc kv.1 kv.2) [])) P
  | none => ∃ kvs, pairsT ds = some kvs ∧ newO m (.dT (mergeT kvs)) P
def bfW (f : Bf) (xs : List D) (m : Hm) (P : PD) : Prop := match f, xs with
  | .len, [.tup ds] => P (.int ds.length) m
  | .len, [.lst ds] => P (.int ds.length) m
  | .len, [.str s] => s.length ≤ SZ ∧ P (.int s.length) m
  | .len, [.ref a] => match m a with
    | some (.lst ds) => P (.int ds.length) m
    | some (.dK kvs) => P (.int kvs.length) m
    | some (.dT kvs) => P (.int kvs.length) m
    | _ => False
  | .abs, [.int i] => P (.int (if i < 0 then -i else i)) m
  | .int, [.int i] => P (.int i) m
  | .int, [.bl b] => P (.int (if b then 1 else 0)) m
  | .str, [.int i] => i.natAbs.log2 < 1920 ∧ P (.str (digitsT i)) m
  | .str, [.bl b] => P (.str (boolT b)) m
  | .str, [.str s] => P (.str s) m
  | .str, [.tup ds] => ∃ Ns, shwL 20 ds = some Ns ∧ pilN Ns + 7 ≤ 100000 ∧ ∀ s : List Nat, s.length ≤ pilN Ns + 7 → P (.str s) m
  | .int, [.str s] => ∃ n, numT s = some n ∧ P (.int n) m
  | .ord, [.str [c]] => P (.int c) m
  | .min, [.int i, .int j] => P (.int (if j < i then j else i)) m
  | .max, [.int i, .int j] => P (.int (if j > i then j else i)) m
  | .min, [.ref a] => match m a with
    | some (.lst ds) => ∃ ns, intsOf ds = some ns ∧ ns ≠ [] ∧ P (.int (minI ns)) m
    | _ => False
  | .max, [.ref a] => match m a with
    | some (.lst ds) => ∃ ns, intsOf ds = some ns ∧ ns ≠ [] ∧ P (.int (maxI ns)) m
    | _ => False
  | .sum, [.ref a] => match m a with
    | some (.lst ds) => ∃ ns, intsOf ds = some ns ∧ P (.int ns.sum) m
    | _ => False
  | .all, [.ref a] => match m a with
    | some (.lst ds) => ∃ bs, blsOf ds = some bs ∧ P (.bl (bs.all id)) m
    | _ => False
  | .any, [.ref a] => match m a with
    | some (.lst ds) => ∃ bs, blsOf ds = some bs ∧ P (.bl (bs.any id)) m
    | _ => False
  | .sum, [.tup ds] => ∃ ns, intsOf ds = some ns ∧ P (.int ns.sum) m
  | .min, [.tup ds] => ∃ ns, intsOf ds = some ns ∧ ns ≠ [] ∧ P (.int (minI ns)) m
  | .max, [.tup ds] => ∃ ns, intsOf ds = some ns ∧ ns ≠ [] ∧ P (.int (maxI ns)) m
  | .dict, [.ref a] => match m a with
    | some (.lst ds) => dictW ds m P
    | some (.dK kvs) => newO m (.dK kvs) P
    | _ => False
  | .dict, [.tup ds] => dictW ds m P
  | .list, [x] => ∃ ds, seqOf m x = some ds ∧ newO m (.lst ds) P
  | .tuple, [.tup ds] => P (.tup ds) m
  | .tuple, [.ref a] => match getL m a with
    | some ds => P (.tup ds) m
    | none => False
  | .sorted, [.ref a] => match m a with
    | some (.lst ds) => (match intsOf ds with
      | some ns => newO m (.lst ((ns.mergeSort (fun a b => decide (a ≤ b))).map .int)) P
      | none => sortable ds = true ∧ newO m (.lst (ds.mergeSort leD)) P)
    | _ => False
  | _, _ => False
def strsOf : List D → Option (List (List Nat))
  | [] => some []
  | d :: ds => match d, strsOf ds with | .str i, some r => some (i :: r) | _, _ => none
def joinT (sep : List Nat) : List (List Nat) → List Nat
  | [] => []
  | [x] => x
  | x :: y :: r => x ++ (sep ++ joinT sep (y :: r))
/-- the kind of a receiver: a list, a dict, a text -/
def rk (m : Hm) : D → Nat
  | .str _ => 3
  | .lst _ => 1
  | .ref a => match m a with
    | some (.lst _) => 1
    | some (.dK _) => 2
    | some (.dT _) => 2
    | _ => 0
  | _ => 0
/-- the methods that a receiver of that kind has here -/
def mok (f : Bm) (k : Nat) : Bool := match f, k with
  | .append, 1 | .extend, 1 | .pop, 1 | .pop, 2 | .insert, 1 | .index, 1 | .count, 1 | .reverse, 1 | .clear, 1 | .get, 2 | .join, 3 | .setdefault, 2
  | .upper, 3 | .partition, 3 | .split, 3 | .startswith, 3 => true
  | _, _ => false
/-- the first place of x -/
def fstIx (x : D) : List D → Nat → Option Nat
  | [], _ => none
  | d :: ds, k => if D.eqv d x = true then some k else fstIx x ds (k + 1)
def bmW (f : Bm) (x : D) (xs : List D) (m : Hm) (P : PD) : Prop := match f, x, xs with
  | .append, .ref a, [d] => match m a with
    | some (.lst ds) => ds.length < SZ ∧ P .non (up m a (.lst (ds ++ [d])))
    | _ => False
  | .extend, .ref a, [.ref b] => match m a, m b with
    | some (.lst ds), some (.lst es) => ds.length + es.length ≤ SZ ∧ P .non (up m a (.lst (ds ++ es)))
    | _, _ => False
  | .pop, .ref a, [y] => match m a with
    | some (.lst ds) => (match y with
      | .int i => (-(2 ^ 63) ≤ i ∧ i < 2 ^ 63) ∧ ∃ k d, ixN ds.length i = some k ∧ ds[k]? = some d ∧ P d (up m a (.lst (ds.eraseIdx k)))
      | _ => False)
    | some (.dK kvs) => ∃ k d, kyOf y = some k ∧ look kvs k = some d ∧ P d (up m a (.dK (dropk kvs k)))
    | some (.dT kvs) => (match y with
      | .tup ks => D.keyds 7 ks = true ∧ ∃ d, look kvs ks = some d ∧ P d (up m a (.dT (dropk kvs ks)))
      | _ => False)
    | _ => False
  | .pop, .ref a, [] => match m a with
    | some (.lst ds) => ∃ d, ds[ds.length - 1]? = some d ∧ P d (up m a (.lst ds.dropLast))
    | _ => False
  | .pop, .ref a, [y, z] => match m a with
    | some (.dK kvs) => (match kyOf y with
      | some j => (match look kvs j with
        | some d => P d (up m a (.dK (dropk kvs j)))
        | none => P z m)
      | none => (match y with
        | .tup ks => kvs = [] ∧ D.keyds 7 ks = true ∧ P z m
        | _ => False))
    | some (.dT kvs) => (match y with
      | .tup ks => D.keyds 7 ks = true ∧ (match look kvs ks with
        | some d => P d (up m a (.dT (dropk kvs ks)))
        | none => P z m)
      | _ => False)
    | _ => False
  | .insert, .ref a, [.int i, d] => match m a with
    | some (.lst ds) => ds.length < SZ ∧ (0 ≤ i ∧ i < 2 ^ 63) ∧ P .non (up m a (.lst (ds.take i.toNat ++ [d] ++ ds.drop i.toNat)))
    | _ => False
  | .index, .ref a, [x] => match m a with
    | some (.lst ds) => ∃ x2 ds2 j, Res m x x2 ∧ Ress m ds ds2 ∧ D.shp 60 x2 = true ∧ D.shps 60 ds2 = true ∧ fstIx x2 ds2 0 = some j ∧ P (.int (j : Nat)) m
    | _ => False
  | .count, .ref a, [.bl k] => match m a with
    | some (.lst ds) => ∃ bs, blsOf ds = some bs ∧ P (.int (bs.count k : Nat)) m
    | _ => False
  | .reverse, .ref a, [] => match m a with
    | some (.lst ds) => P .non (up m a (.lst ds.reverse))
    | _ => False
  | .clear, .ref a, [] => match m a with
    | some (.lst _) => P .non (up m a (.lst []))
    | _ => False
  | .get, .ref a, [k, d] => ∃ o, dget m a k = some o ∧ P (o.getD d) m
  | .setdefault, .ref a, [.tup ks, d] => match m a with
    | some (.dK kvs) => kvs = [] ∧ D.keyds 7 ks = true ∧ P d (up m a (.dT [(ks, d)]))
    | some (.dT kvs) => D.keyds 7 ks = true ∧ kvs.length < SZ ∧ (match look kvs ks with
      | some v => P v m
      | none => P d (up m a (.dT (putk kvs ks d))))
    | _ => False
  | .join, .str sep, [.ref a] => match m a with
    | some (.lst ds) => ∃ ss, strsOf ds = some ss ∧ (ss.map List.length).sum + ss.length * sep.length ≤ SZ ∧ P (.str (joinT sep ss)) m
    | _ => False
  | .upper, .str s, [] => (s.all (· < 128) = true ∧ s.length ≤ 5592405) ∧ P (.str (s.map upC)) m
  | .partition, .str s, [.str t] => (t ≠ [] ∧ s.length ≤ SZ) ∧ P (.tup (par3 s t)) m
  | .split, .str s, [.str t] => (t ≠ [] ∧ t.all (· < 256) = true ∧ s.length + 2 ≤ SZ) ∧ newO m (.lst ((splT t 0 [] s).map .str)) P
  | .startswith, .str s, [.str t] => P (.bl (preT t s)) m
  | _, _, _ => False
def setW (o i v : D) (m : Hm) (Q : Hm → Prop) : Prop := match o, i with
  | .ref a, .int k => match m a with
    | some (.lst ds) => ∃ j, ixN ds.length k = some j ∧ Q (up m a (.lst (ds.set j v)))
    | some (.dK kvs) => kvs.length < SZ ∧ Q (up m a (.dK (putk kvs (.inl k) v)))
    | _ => False
  | .ref a, i => ∃ ob, dput m a i v = some ob ∧ Q (up m a ob)
  | _, _ => False
def fput (fs : List (Nat × D)) (f : Nat) (v : D) : List (Nat × D) := match fs with
  | [] => [(f, v)]
  | (g, w) :: r => if g = f then (g, v) :: r else (g, w) :: fput r f v
def fget (fs : List (Nat × D)) (f : Nat) : Option D := match fs with
  | [] => none
  | (g, w) :: r => if f = g then some w else fget r f
def wipe (r : Env) : List Nat → Env
  | [] => r
  | v :: vs => (wipe r vs).set v none
def enumD : Nat → List D → List D
  | _, [] => []
  | k, x :: xs => .tup [.int k, x] :: enumD (k + 1) xs
def rangeD (lo : Int) (n : Nat) : List D := (List.range n).map fun i => .int (lo + (i : Nat))
def rangeC (lo c : Int) (n : Nat) : List D := (List.range n).map fun i => .int (lo + (i : Nat) * c)
def inB (i : Int) : Prop := -(2 ^ 62) ≤ i ∧ i < 2 ^ 62
/-- turn by turn: what is walked stands still -/
def loopW (st : Hm → Prop) (turn : D → Env → Hm → (Env → Hm → Prop) → Prop) (done : Env → Hm → Prop) : List D → Env → Hm → Prop
  | [], r, m => st m ∧ done r m
  | x :: xs, r, m => st m ∧ turn x r m fun r2 m2 => loopW st turn done xs r2 m2
def compW (p : Nat) (st : Hm → Prop) (turn : D → Hm → PD → (Hm → Prop) → Prop) (done : Hm → Prop) : List D → Hm → Prop
  | [], m => st m ∧ done m
  | x :: xs, m => st m ∧ turn x m (fun y m2 => ∃ acc, m2 p = some (.lst acc) ∧ acc.length < SZ ∧ compW p st turn done xs (up m2 p (.lst (acc ++ [y]))))
      (fun m2 => compW p st turn done xs m2)
def whileW (test : Env → Hm → (Bool → Hm → Prop) → Prop) (body : Env → Hm → (Env → Hm → Prop) → Prop) (done : Env → Hm → Prop) : Nat → Env → Hm → Prop
  | 0, _, _ => False
  | n + 1, r, m => test r m fun b m1 => if b = true then body r m1 fun r2 m2 => whileW test body done n r2 m2 else done r m1
abbrev XD := Nat → Env → Hm → Prop
abbrev CallS := Nat → Nat → List D → Hm → PD → (Nat → Hm → Prop) → Prop
/-- no exception -/
def XF : XD := fun _ _ _ => False
/-- calls by class (0: none) and name; the name __init__ -/
structure Sg where
  C : CallS
  ini : Nat
  fld : Nat → Nat → Bool
  hs : Nat → Nat → Bool
  ex : Nat → Bool
  /-- the handled exception, calls while one is handled, classes of exceptions -/
  hx : Option (Nat × Nat)
  CH : Nat → Nat → CallS
  sub : Nat → Nat → Bool
/-- while the exception at a, of class c, is handled -/
def Sg.hot (g : Sg) (a c : Nat) : Sg := ⟨g.CH a c, g.ini, g.fld, g.hs, fun _ => false, some (a, c), fun _ _ _ _ _ _ _ _ => False, g.sub⟩
def isT (g : Sg) (m : Hm) (x : D) (ts : List Ty) : Option Bool := match ts with
  | [.own k] => (match x with | .exc a c => if g.hx = some (a, c) then some (g.sub c k) else none | _ => none)
  | [.verr] => (match x with | .exc a c => if g.hx = some (a, c) then some true else none | _ => none)
  | ts => tyAny m x ts
def walkV (d : D) (m : Hm) (K : List D → (Hm → Prop) → Hm → Prop) : Prop := match d with
  | .tup ds => K ds (fun _ => True) m
  | .lst ds => K ds (fun _ => True) m
  | .str s => K (s.map fun c => .str [c]) (fun _ => True) m
  | .ref a => match m a with
    | some (.lst ds) => K ds (fun m2 => m2 a = some (.lst ds)) m
    | _ => False
  | _ => False
def rngW (xs : List D) (m : Hm) (K : List D → (Hm → Prop) → Hm → Prop) : Prop := match xs with
  | [.int j] => inB j ∧ K (rangeD 0 j.toNat) (fun _ => True) m
  | [.int i, .int j] => inB i ∧ inB j ∧ K (rangeD i (j - i).toNat) (fun _ => True) m
  | [.int i, .int j, .int c] => inB i ∧ inB j ∧ ((c = -1 ∧ K (rangeC i (-1) (i - j).toNat) (fun _ => True) m) ∨ (c = 1 ∧ K (rangeC i 1 (j - i).toNat) (fun _ => True) m))
  | _ => False
def zipD : List D → List D → List D
  | x :: xs, y :: ys => .tup [x, y] :: zipD xs ys
  | _, _ => []
/-- lists of ints out of tuples of ints -/
def tupIs : List D → Option (List (List Int))
  | [] => some []
  | d :: ds => match d, tupIs ds with
    | .tup xs, some r => (match intsOf xs with | some ns => some (ns :: r) | none => none)
    | _, _ => none
/-- tuples of ints, texts and such tuples -/
def nestL (ds : List D) : Bool := ds.all fun d => match d with | .tup es => D.keyds 7 es | _ => false
def fuW (f : Fu) (xs : List D) (m : Hm) (P : PD) : Prop := match f, xs with
  | .lenT, [.ref a] => ∃ ds ks, m a = some (.lst ds) ∧ tupIs ds = some ks ∧ ks.length < 64 ∧ P (.int ((unlL ks).length : Nat)) m
  | .sortN, [.ref a] => ∃ ds, m a = some (.lst ds) ∧ nestL ds = true ∧ ds.length < 64 ∧ sortable ds = true ∧ ∀ ms : List D, ms.Nodup → (∀ k, k ∈ ms ↔ k ∈ ds) → newO m (.lst (ms.mergeSort leD)) P
  | _, _ => False
/-- what zip draws from, and what must hold meanwhile -/
def zsrc (m : Hm) : D → Option (List D × (Hm → Prop))
  | .tup ds => some (ds, fun _ => True)
  | .lst ds => some (ds, fun _ => True)
  | .str s => some (s.map fun c => .str [c], fun _ => True)
  | .ref a => match m a with
    | some (.lst ds) => some (ds, fun m2 => m2 a = some (.lst ds))
    | _ => none
  | _ => none
def lenT : Ts → Nat
  | .nil => 0
  | .cons _ ts => lenT ts + 1
mutual
def wpE (g : Sg) : E → XD → Env → Hm → PD → Prop
  | .var i, _, r, m, P => ∃ d, vget r i = some d ∧ P d m
  | .non, _, _, m, P => P .non m
  | .bl b, _, _, m, P => P (.bl b) m
  | .num i, _, _, m, P => P (.int i) m
  | .txt s, _, _, m, P => P (.str s) m
  | .glob _ d, _, _, m, P => P d m
  | .bin op a b, X, r, m, P => wpE g a X r m fun x m1 => wpE g b X r m1 fun y m2 => binW op x y m2 P
  | .neg a, X, r, m, P => wpE g a X r m fun x m1 => match x with | .int i => P (.int (-i)) m1 | _ => False
  | .cmp op a b, X, r, m, P => wpE g a X r m fun x m1 => wpE g b X r m1 fun y m2 => cmpW op x y m2 P
  | .cmp2 op op2 a b c, X, r, m, P => wpE g a X r m fun x m1 => wpE g b X r m1 fun y m2 => cmpW op x y m2 fun z m3 => match z with
      | .bl k => if k = true then wpE g c X r m3 fun w m4 => cmpW op2 y w m4 P else P (.bl false) m3
      | _ => False
  | .and_ es, X, r, m, P => wpAnd g es X r m P
  | .or_ es, X, r, m, P => wpOr g es X r m P
  | .not_ a, X, r, m, P => wpE g a X r m fun x m1 => ∃ b, truth m1 x = some b ∧ P (.bl (!b)) m1
  | .ifx t a b, X, r, m, P => wpE g t X r m fun x m1 => ∃ k, truth m1 x = some k ∧ if k = true then wpE g a X r m1 P else wpE g b X r m1 P
  | .call f es, X, r, m, P => g.hs 0 f = true ∧ wpEs g es X r m fun ds m1 => g.C 0 f ds m1 P fun c m2 => X c r m2
  | .meth k o es, X, r, m, P => wpE g o X r m fun x m1 => match x with
      | .ref a => ∃ c fs, m1 a = some (.ins c fs) ∧ fget fs k = none ∧ g.hs c k = true ∧ wpEs g es X r m1 fun ds m2 => g.C c k (x :: ds) m2 P fun c m2 => X c r m2
      | _ => False
  | .make c es, X, r, m, P => g.hs c g.ini = true ∧ wpEs g es X r m fun ds m1 => ∀ p, m1 p = none → g.C c g.ini (.ref p :: ds) (up m1 p (.ins c [])) (fun d m2 => d = .non ∧ P (.ref p) m2) fun c m2 => X c r m2
  | .bcall f es, X, r, m, P => wpEs g es X r m fun ds m1 => (g.hx = none ∨ (f = .max ∧ ∃ xs, ds = [.tup xs])) ∧ bfW f ds m1 P
  | .bmeth f o es, X, r, m, P => wpE g o X r m fun x m1 => mok f (rk m1 x) = true ∧ wpEs g es X r m1 fun ds m2 => rk m2 x = rk m1 x ∧ bmW f x ds m2 P
  | .isin a ts, X, r, m, P => wpE g a X r m fun x m1 => ∃ b, isT g m1 x ts = some b ∧ P (.bl b) m1
  | .attr f o, X, r, m, P => wpE g o X r m fun x m1 => match x with
      | .ref a => ∃ c fs d, m1 a = some (.ins c fs) ∧ fget fs f = some d ∧ P d m1
      | _ => False
  | .idx a i, X, r, m, P => wpE g a X r m fun x m1 => wpE g i X r m1 fun y m2 => ixW x y m2 P
  | .slc a lo hi, X, r, m, P => wpE g a X r m fun x m1 => wpO g lo X r m1 fun l m2 => wpO g hi X r m2 fun h m3 => slW x l h m3 P
  | .rev a, X, r, m, P => wpE g a X r m fun x m1 => revW x m1 P
  | .tup es, X, r, m, P => wpEs g es X r m fun ds m1 => P (.tup ds) m1
  | .lst es, X, r, m, P => wpEs g es X r m fun ds m1 => newO m1 (.lst ds) P
  | .dctK, _, _, m, P => newO m (.dK []) P
  | .lenS e, X, r, m, P => wpE g e X r m fun x m1 => match x with
      | .ref a => ∃ ds ks, m1 a = some (.lst ds) ∧ kysOf ds = some ks ∧ ks.length ≤ 4000 ∧ P (.int ((unlL ks).length : Nat)) m1
      | _ => False
  | .fus f es, X, r, m, P => wpEs g es X r m fun ds m1 => fuW f ds m1 P
  | .comp elt tg it cond own, X, r, m, P => wpI g it X r m fun xs st m1 => ∀ p, m1 p = none →
      compW p st (fun x m2 Q1 Q2 => wpT g tg x XF (wipe r own) m2 fun r3 m3 =>
        match cond with
        | .no => wpE g elt XF r3 m3 Q1
        | .yes t => wpE g t XF r3 m3 fun y m4 => ∃ b, truth m4 y = some b ∧ if b = true then wpE g elt XF r3 m4 Q1 else Q2 m4)
        (fun m2 => P (.ref p) m2) xs (up m1 p (.lst []))
  | .compD elt tg e cond own, X, r, m, P => ∃ a kvs, m a = some (.dK kvs) ∧ wpE g e XF r (up m a (.fz kvs)) fun d m1 => d = .ref a ∧ m1 a = some (.fz kvs) ∧ ∀ p, m1 p = none → compW p (fun _ => True) (fun x m2 Q1 Q2 => wpT g tg x XF (wipe r own) m2 fun r3 m3 =>
      match cond with
      | .no => wpE g elt XF r3 m3 Q1
      | .yes t => wpE g t XF r3 m3 fun y m4 => ∃ b, truth m4 y = some b ∧ if b = true then wpE g elt XF r3 m4 Q1 else Q2 m4)
      (fun m2 => P (.ref p) (up m2 a (.dK kvs))) (kvs.map fun kv => dOf kv.1) (up m1 p (.lst []))
def wpJ (g : Sg) : Es → List Nat → XD → Env → Hm → PD → Prop
  | .nil, acc, _, _, m, P => P (.str acc) m
  | .cons e es, acc, X, r, m, P => wpE g e X r m fun d m1 => ∃ s, fmtD d = some s ∧ acc.length + s.length ≤ SZ ∧ wpJ g es (acc ++ s) X r m1 P
def wpEs (g : Sg) : Es → XD → Env → Hm → (List D → Hm → Prop) → Prop
  | .nil, _, _, m, P => P [] m
  | .cons e es, X, r, m, P => wpE g e X r m fun d m1 => wpEs g es X r m1 fun ds m2 => P (d :: ds) m2
def wpAnd (g : Sg) : Es → XD → Env → Hm → PD → Prop
  | .nil, _, _, _, _ => False
  | .cons e es, X, r, m, P => wpE g e X r m fun x m1 => match es with
      | .nil => P x m1
      | .cons _ _ => ∃ b, truth m1 x = some b ∧ if b = true then wpAnd g es X r m1 P else P x m1
def wpOr (g : Sg) : Es → XD → Env → Hm → PD → Prop
  | .nil, _, _, _, _ => False
  | .cons e es, X, r, m, P => wpE g e X r m fun x m1 => match es with
      | .nil => P x m1
      | .cons _ _ => ∃ b, truth m1 x = some b ∧ if b = true then P x m1 else wpOr g es X r m1 P
def wpO (g : Sg) : O → XD → Env → Hm → (Option Int → Hm → Prop) → Prop
  | .no, _, _, m, P => P none m
  | .yes e, X, r, m, P => wpE g e X r m fun x m1 => match x with | .int i => P (some i) m1 | _ => False
def wpI (g : Sg) : I → XD → Env → Hm → (List D → (Hm → Prop) → Hm → Prop) → Prop
  | .val e, X, r, m, K => wpE g e X r m fun d m1 => walkV d m1 K
  | .rng es, X, r, m, K => wpEs g es X r m fun ds m1 => rngW ds m1 K
  | .enum e, X, r, m, K => wpE g e X r m fun d m1 => match d with
      | .str _ => False
      | _ => walkV d m1 fun xs st m2 => K (enumD 0 xs) st m2
  | .zip a b, X, r, m, K => wpE g a X r m fun x m1 => wpE g b X r m1 fun y m2 => ∃ xs s1 ys s2, zsrc m2 x = some (xs, s1) ∧ zsrc m2 y = some (ys, s2) ∧ K (zipD xs ys) (fun m3 => s1 m3 ∧ s2 m3) m2
def wpT (g : Sg) : T → D → XD → Env → Hm → (Env → Hm → Prop) → Prop
  | .nm i, d, _, r, m, Q => Q (r.set i (some d)) m
  | .tp ts, d, X, r, m, Q => match d with
      | .tup ds => ds.length = lenT ts ∧ wpTs g ts ds X r m Q
      | .ref p => (match m p with
        | some (.lst ds) => ds.length = lenT ts ∧ wpTs g ts ds X r m Q
        | _ => False)
      | _ => False
  | .at_ f o, d, X, r, m, Q => wpE g o X r m fun x m1 => match x with
      | .ref a => ∃ c fs, m1 a = some (.ins c fs) ∧ g.fld c f = true ∧ fs.length < 1000 ∧ Q r (up m1 a (.ins c (fput fs f d)))
      | _ => False
  | .sb o i, d, X, r, m, Q => wpE g o X r m fun x m1 => wpE g i X r m1 fun y m2 => setW x y d m2 fun m3 => Q r m3
def wpTs (g : Sg) : Ts → List D → XD → Env → Hm → (Env → Hm → Prop) → Prop
  | .nil, ds, _, r, m, Q => match ds with | [] => Q r m | _ => False
  | .cons t ts, ds, X, r, m, Q => match ds with | d :: ds => wpT g t d X r m fun r1 m1 => wpTs g ts ds X r1 m1 Q | [] => False
end
def augW (op : Bop) (x y : D) (P : D → Prop) : Prop := match op, x, y with
  | .add, .int i, .int j => P (.int (i + j))
  | .sub, .int i, .int j => P (.int (i - j))
  | _, _, _ => False
structure K where
  nx : Env → Hm → Prop
  rt : PD
  bk : Env → Hm → Prop
  ct : Env → Hm → Prop
def testW (g : Sg) (e : E) (X : XD) (r : Env) (m : Hm) (P : Bool → Hm → Prop) : Prop := wpE g e X r m fun x m1 => ∃ b, truth m1 x = some b ∧ P b m1
mutual
def wpS : Sg → XD → S → Env → Hm → K → Prop
  | g, X, .pass, r, m, Q => Q.nx r m
  | g, X, .ex e, r, m, Q => wpE g e X r m fun _ m1 => Q.nx r m1
  | g, X, .asg t e, r, m, Q => wpE g e X r m fun d m1 => wpT g t d X r m1 Q.nx
  | g, X, .aug t op e, r, m, Q => match t with
      | .nm i => ∃ x, vget r i = some x ∧ wpE g e X r m fun y m1 => augW op x y fun z => Q.nx (r.set i (some z)) m1
      | .at_ f o => wpE g o X r m fun x m1 => match x with
          | .ref a => ∃ c fs d, m1 a = some (.ins c fs) ∧ fget fs f = some d ∧ wpE g e X r m1 fun y m2 => augW op d y fun z =>
              ∃ fs2, m2 a = some (.ins c fs2) ∧ fs2.length < 1000 ∧ Q.nx r (up m2 a (.ins c (fput fs2 f z)))
          | _ => False
      | .sb o i => wpE g o X r m fun x m1 => wpE g i X r m1 fun y m2 => match x with
          | .ref a => ∃ d, dget m2 a y = some (some d) ∧ wpE g e X r m2 fun v m3 => augW op d v fun z => setW x y z m3 fun m4 => Q.nx r m4
          | _ => False
      | .tp _ => False
  | g, X, .ife c a b, r, m, Q => testW g c X r m fun k m1 => if k = true then wpSs g X a r m1 Q else wpSs g X b r m1 Q
  | g, X, .fr t it b, r, m, Q => wpI g it X r m fun xs st m1 =>
      loopW st (fun x r2 m2 nx => wpT g t x X r2 m2 fun r3 m3 => wpSs g X b r3 m3 { nx := nx, rt := Q.rt, bk := Q.nx, ct := nx }) Q.nx xs r m1
  | g, X, .whl c b, r, m, Q => ∃ n, whileW (testW g c X) (fun r2 m2 nx => wpSs g X b r2 m2 { nx := nx, rt := Q.rt, bk := Q.nx, ct := nx }) Q.nx n r m
  | g, X, .brk, r, m, Q => Q.bk r m
  | g, X, .cnt, r, m, Q => Q.ct r m
  | g, X, .ret e, r, m, Q => wpE g e X r m Q.rt
  | g, X, .ret0, _, m, Q => Q.rt .non m
  | g, X, .rais c, r, m, _ => g.ex c = true ∧ X c r m
  | g, X, .nev, _, _, _ => False
def wpSs : Sg → XD → Ss → Env → Hm → K → Prop
  | g, X, .nil, r, m, Q => Q.nx r m
  | g, X, .cons s ss, r, m, Q => wpS g X s r m { Q with nx := fun r1 m1 => wpSs g X ss r1 m1 Q }
end
structure Fn where
  params : Nat
  slots : Nat
  body : Ss
structure Tab where
  F : Nat → Nat → Option Fn
  ini : Nat
  fld : Nat → Nat → Bool
  ex : Nat → Bool
  sub : Nat → Nat → Bool
def start (fn : Fn) (ds : List D) : Env := ds.map some ++ List.replicate (fn.slots - ds.length) none
def retK (P : PD) : K := { nx := fun _ m => P .non m, rt := P, bk := fun _ _ => False, ct := fun _ _ => False }
/-- calls while the exception h is handled: they let nothing out -/
def callH (t : Tab) (h : Nat × Nat) : Nat → CallS
  | 0 => fun _ _ _ _ _ _ => False
  | n + 1 => fun c f ds m P _ => ∃ fn, t.F c f = some fn ∧ ds.length = fn.params ∧ wpSs ⟨callH t h n, t.ini, t.fld, fun c k => (t.F c k).isSome, fun _ => false, some h, fun _ _ _ _ _ _ _ _ => False, t.sub⟩ XF fn.body (start fn ds) m (retK P)
def callN (t : Tab) : Nat → CallS
  | 0 => fun _ _ _ _ _ _ => False
  | n + 1 => fun c f ds m P X => ∃ fn, t.F c f = some fn ∧ ds.length = fn.params ∧ wpSs ⟨callN t n, t.ini, t.fld, fun c k => (t.F c k).isSome, t.ex, none, fun a c => callH t (a, c) n, t.sub⟩ (fun c _ m2 => X c m2) fn.body (start fn ds) m (retK P)
/-- a depth, and the exception that is handled -/
structure Dn where
  n : Nat
  hx : Option (Nat × Nat)
def callD (t : Tab) (d : Dn) : CallS := match d.hx with
  | none => callN t d.n
  | some h => callH t h d.n
end Mn
end

section
set_option Elab.async false
set_option linter.all false
set_option maxRecDepth 100000
set_option maxHeartbeats 4000000
namespace Mn
open PySem PySem.Spec PyProof.Rows L2
def toS (s : List Nat) : Str := ⟨s.toArray⟩
/-- a tuple that has no dict of its own -/
abbrev SqU (F : PySem.W.Frag) (H : Hp) (a : Addr) (vs : List V) : Prop := Solid F H a vs
def FzL (F : PySem.W.Frag) (H : Hp) (a : Addr) (vs : List V) : Prop := (∃ o, H a = some (.frz o (.lst vs))) ∨
  ∃ (o : Obj) (its : Array Value) (n : Nat), F.lookup a = some o ∧ o.cls = .type "list" ∧ o.dict = none ∧ o.data = .seq its n ∧ its.size ≤ sizeLine ∧ Vals vs its.toList
/-- what stays: tuples, locked objects -/
structure Kp (H H2 : Hp) : Prop where
  tu : ∀ b xs, H b = some (.tup xs) → H2 b = some (.tup xs)
  fz : ∀ b o u, H b = some (.frz o u) → H2 b = some (.frz o u)
/-- what stays where a dict is unlocked -/
structure Kw (H H2 : Hp) : Prop where
  fz : ∀ b o u, (∀ kvs, u ≠ .dK kvs) → (∀ φ, u ≠ .ext φ) → H b = some (.frz o u) → H2 b = some (.frz o u)
mutual
/-- v stands for d -/
inductive Rp (F : PySem.W.Frag) (H : Hp) : D → V → Prop where
  | non : Rp F H .non .non
  | bl (b : Bool) : Rp F H (.bl b) (.bl b)
  | int (i : Int) : Rp F H (.int i) (.int i)
  | str (s : List Nat) : Rp F H (.str s) (.str (toS s))
  | tup {ds : List D} {a : Addr} {vs : List V} : SqU F H a vs → Rps F H ds vs → Rp F H (.tup ds) (.ref a)
  | lst {ds : List D} {a : Addr} {vs : List V} : FzL F H a vs → Rps F H ds vs → Rp F H (.lst ds) (.ref a)
  | ref (a : Addr) : Rp F H (.ref a) (.ref a)
  | exc (a : Addr) (c : Nat) : Rp F H (.exc a c) (.ref a)
inductive Rps (F : PySem.W.Frag) (H : Hp) : List D → List V → Prop where
  | nil : Rps F H [] []
  | cons {d : D} {v : V} {ds : List D} {vs : List V} : Rp F H d v → Rps F H ds vs → Rps F H (d :: ds) (v :: vs)
end
/-- names and classes of the text -/
structure Lk where
  F : PySem.W.Frag
  w : World
  nm : Nat → Str
  cls : Nat → Option Addr
  ok : Nat → Bool
  fld : Nat → Nat → Bool
def kyV : Ky → Key
  | .inl i => .inl i
  | .inr s => .inr (toS s)
def KvR {κ ι : Type} (F : PySem.W.Frag) (H : Hp) (inj : κ → ι) : List (κ × D) → List (ι × V) → Prop := Paired fun p q => q.1 = inj p.1 ∧ Rp F H p.2 q.2
mutual
def nk : D → NestedKey
  | .int i => .num i
  | .str s => .text (toS s)
  | .tup ds => .tup (nks ds)
  | _ => .none
def nks : List D → List NestedKey
  | [] => []
  | d :: ds => nk d :: nks ds
end
def nkT (ks : List D) : NestedKey := .tup (nks ks)
/-- keys and values of a dict with tuples for keys -/
def KeyR (F : PySem.W.Frag) (H : Hp) (kv : List D × D) (x : XE) : Prop := x.1 = nkT kv.1 ∧ D.keyds 7 kv.1 = true ∧ Rp F H (.tup kv.1) (.ref x.2.1) ∧ Rp F H kv.2 x.2.2
abbrev DtR (F : PySem.W.Frag) (H : Hp) : List (List D × D) → List XE → Prop := Paired (KeyR F H)
structure DtF (a : Addr) (xs : List XE) : Prop where
  sys : (a == sysModules) = false
  nd : (xs.map (·.1)).Nodup
  sz : xs.length ≤ sizeLine
def CellR (L : Lk) (H : Hp) (a : Addr) : MO → Prop
  | .lst ds => ∃ vs, H a = some (.lst vs) ∧ Rps L.F H ds vs
  | .dK kvs => ∃ kws, H a = some (.dK kws) ∧ KvR L.F H kyV kvs kws
  | .dT kvs => ∃ xs, DtAt L.w H a xs ∧ DtR L.F H kvs xs
  | .ins c fs => ∃ C dx gs, L.cls c = some C ∧ H a = some (.ins C dx gs) ∧ KvR L.F H L.nm fs gs ∧ (fs.all fun p => L.ok p.1 && L.fld c p.1) = true
  | .set _ => False
  | .exc _ => False
  | .fz kvs => ∃ od kws, H a = some (.frz od (.dK kws)) ∧ KvR L.F H kyV kvs kws
  | .fzT kvs => ∃ od xs, H a = some (.frz od (DtO L.w a xs)) ∧ DtF a xs ∧ DtR L.F H kvs xs
def Rel (L : Lk) (m : Hm) (H : Hp) : Prop := ∀ a o, m a = some o → CellR L H a o
/-- what is wanted, at the layer's level -/
def Kt (L : Lk) (H : Hp) (P : PD) (Q : VK) : Prop := ∀ d m v H2, P d m → Rp L.F H2 d v → Rel L m H2 → Kp H H2 → Q v H2
section
variable {X : Cx} {L : Lk} {m : Hm} {H : Hp} {P : PD} {Q : VK} {x y : D} {v u : V}
def bopO : Bop → Operator
  | .add => .Add | .sub => .Sub | .mul => .Mult | .fdiv => .FloorDiv | .mod => .Mod | .pow => .Pow
end
end Mn
end

section
set_option Elab.async false
set_option linter.all false
set_option maxRecDepth 100000
set_option maxHeartbeats 4000000
namespace Mn
open PySem PySem.Spec PyProof.Rows L2
/-- the first i pairs, gathered -/
structure Gat (H : Hp) (xs ys : List V) (acc : Array Value) (i : Nat) : Prop where
  sz : acc.size = i
  at_ : ∀ j, j < i → ∃ T x y o, acc[j]? = some (.ref T) ∧ xs[j]? = some x ∧ ys[j]? = some y ∧ H T = some (.frz o (.tup [x, y])) ∧ o.dict = none
end Mn
end

section
set_option Elab.async false
set_option linter.all false
set_option maxRecDepth 100000
set_option maxHeartbeats 4000000
end

section
set_option Elab.async false
set_option linter.all false
set_option maxRecDepth 100000
set_option maxHeartbeats 4000000
end

section
set_option Elab.async false
set_option linter.all false
set_option maxRecDepth 100000
set_option maxHeartbeats 4000000
namespace Mn
open PySem PySem.Spec PyProof.Rows
section
variable {prog : Program} {w : World} {h0 : Heap} {d : Nat}
/-- the repr of x: some text of at most N signs, whatever is under way -/
def RepB (prog : Program) (w : World) (h0 : Heap) (d : Nat) (x : Value) (N : Nat) : Prop :=
  ∀ (b : Nat), b + N ≤ sizeLine → ∀ (A : Around) (E : Value → Shared → Prop) (s : Shared) (Q : Str → Shared → Prop), A.units + d < cLine → (∀ a o, h0.get? a = some o → s.heap.get? a = some o) →
    (∀ t tk, t.length ≤ N → Q t { s with toks := tk }) → wpAny (model prog w) A (pyReprUnder b x) Q E s
inductive RepBs (prog : Program) (w : World) (h0 : Heap) (d : Nat) : List Value → List Nat → Prop
  | nil : RepBs prog w h0 d [] []
  | cons {x : Value} {N : Nat} {l : List Value} {Ns : List Nat} : RepB prog w h0 d x N → RepBs prog w h0 d l Ns → RepBs prog w h0 d (x :: l) (N :: Ns)
def pil (Ns : List Nat) : Nat := (Ns.map (· + 2)).sum
end
open L2
section
mutual
/-- what may be shown: texts, numbers, tuples of such; its depth and the most signs it may come to -/
inductive ShV (K : PySem.W.Frag) (H : Hp) : Nat → V → Nat → Prop
  | int {i : Int} {d : Nat} (h : i.natAbs.log2 < 1920) : ShV K H d (.int i) ((Str.ofString (toString i)).length)
  | str {z : Str} {d : Nat} (h : ∀ c ∈ z.cps.toList, c < 16 ^ 8) (h2 : 10 * z.length + 2 ≤ sizeLine) : ShV K H d (.str z) (10 * z.length + 2)
  | tup {a : Addr} {vs : List V} {d : Nat} {Ns : List Nat} (h : SqT K H a vs) (hs : ShVs K H d vs Ns) : ShV K H (d + 1) (.ref a) (pil Ns + 7)
inductive ShVs (K : PySem.W.Frag) (H : Hp) : Nat → List V → List Nat → Prop
  | nil {d : Nat} : ShVs K H d [] []
  | cons {v : V} {vs : List V} {d N : Nat} {Ns : List Nat} (h : ShV K H d v N) (hs : ShVs K H d vs Ns) : ShVs K H d (v :: vs) (N :: Ns)
end
variable {X : Cx} {pins : List (Addr × Obj)} {σ : L2.St} {H : Hp} {s : Shared}
end
end Mn
end

section
set_option Elab.async false
set_option linter.all false
set_option maxRecDepth 100000
set_option maxHeartbeats 4000000
end

section
set_option Elab.async false
set_option linter.all false
set_option maxRecDepth 100000
set_option maxHeartbeats 4000000
end

section
set_option Elab.async false
set_option linter.all false
set_option maxRecDepth 100000
set_option maxHeartbeats 4000000
end

section
set_option Elab.async false
set_option linter.all false
set_option maxRecDepth 100000
set_option maxHeartbeats 4000000
namespace Mn
open PySem PySem.Spec PyProof.Rows L2
abbrev NK (P : Program) (w : World) (h : Heap) (k : NestedKey) (b : Addr) : Prop := (nestedKind P w).is h k b
section
variable {P : Program} {w : World}
/-- the set at a holds the keys of L, each at its place -/
structure SetN (P : Program) (w : World) (h : Heap) (a : Addr) (L : List (Addr × NestedKey)) (es : Array (Int × Value)) (ep : Nat) (t : SetTable) : Prop where
  ob : ∃ o, h.get? a = some o ∧ o.ExactSet ∧ o.data = .set es ep t
  rows : es.toList = L.map fun p => (p.2.hash w, Value.ref p.1)
  tab : TabOk t (L.map fun p => p.2.hash w)
  nd : (L.map (·.2)).Nodup
  keys : ∀ p ∈ L, NK P w h p.2 p.1
  led : w.params.followText "set-order" = true ∨ t.led = true
  room : L.length * 5 < t.mask * 3
  few : L.length < 64
variable {A : Around} {E : Value → Shared → Prop} {s : Shared} {a x : Addr} {k : NestedKey} {L : List (Addr × NestedKey)} {es : Array (Int × Value)} {ep : Nat} {t : SetTable}
end
end Mn
end

section
set_option Elab.async false
set_option linter.all false
set_option maxRecDepth 100000
set_option maxHeartbeats 4000000
namespace Mn
open PySem PySem.Spec PyProof.Rows L2
section
variable {X : Cx}
def copO : Cop → CmpOp
  | .eq => .Eq | .ne => .NotEq | .lt => .Lt | .le => .LtE | .gt => .Gt | .ge => .GtE | .is_ => .Is | .isn => .IsNot | .in_ => .In | .nin => .NotIn
inductive KHit (F : PySem.W.Frag) (H : Hp) (ls : List (Key × V)) : List (Key × V) → Bool → Prop
  | nil : KHit F H ls [] true
  | miss {k : Key} {v : V} {r : List (Key × V)} : valV ls k = none → KHit F H ls ((k, v) :: r) false
  | hit {k : Key} {v u : V} {d e : PyData} {r : List (Key × V)} {b : Bool} : valV ls k = some u → Dp F H v d → Dp F H u e → SeqAt.shaped d = true → SeqAt.shaped e = true → KHit F H ls r b → KHit F H ls ((k, v) :: r) (PyData.eqv d e && b)
end
end Mn
end

section
set_option Elab.async false
set_option linter.all false
set_option maxRecDepth 100000
set_option maxHeartbeats 4000000
end

section
set_option Elab.async false
set_option linter.all false
set_option maxRecDepth 100000
set_option maxHeartbeats 4000000
namespace Mn
open PySem PySem.Spec PyProof.Rows L2
def bfN : Bf → Str
  | .len => "len" | .abs => "abs" | .int => "int" | .str => "str" | .ord => "ord" | .min => "min" | .max => "max"
  | .sum => "sum" | .all => "all" | .any => "any" | .sorted => "sorted" | .list => "list" | .tuple => "tuple" | .dict => "dict" | .set => "set"
end Mn
end

section
set_option Elab.async false
set_option linter.all false
set_option maxRecDepth 100000
set_option maxHeartbeats 4000000
namespace Mn
open PySem PySem.Spec PyProof.Rows L2 TL
def bmN : Bm → Str
  | .append => "append" | .extend => "extend" | .pop => "pop" | .insert => "insert" | .reverse => "reverse" | .clear => "clear" | .index => "index" | .count => "count"
  | .get => "get" | .setdefault => "setdefault" | .values => "values" | .join => "join" | .partition => "partition" | .split => "split" | .startswith => "startswith" | .upper => "upper" | .replace => "replace"
abbrev RM := V → List V → Hp → VK → Prop
/-- what a method's call asks of the text's names -/
structure MthOk (X : Cx) (T : String) (name : Str) (id : String) (r : RM) : Prop where
  pa : PlainAttrs T
  slot : Slot T name id
  ty : typeOf (.builtin id) = pure (.type "method_descriptor")
  mt : MtR X id r
section
variable {L : Lk} {m : Hm} {H : Hp} {x y z : D} {v u w : V} {Q : Hm → Prop} {R : Hp → Prop}
def tyN : Ty → String
  | .verr => "ValueError"
  | .int => "int" | .bool => "bool" | .str => "str" | .tuple => "tuple" | .list => "list" | .dict => "dict" | .own _ => "object"
def isBt : Ty → Bool
  | .verr => false
  | .own _ => false | _ => true
end
end Mn
end

section
set_option Elab.async false
set_option linter.all false
set_option maxRecDepth 100000
set_option maxHeartbeats 4000000
namespace Mn
open PySem PySem.Spec PyProof.Rows L2
def nostar : Expr → Bool | .Starred .. => false | _ => true
def nocomp : Expr → Bool | .ListComp .. => false | .SetComp .. => false | .DictComp .. => false | _ => true
def nosup : Expr → Bool | .Call (.Name _ _) [] [] _ => false | _ => true
def noset : Expr → Bool | .Set .. => false | _ => true
def nosl : Expr → Bool | .Slice .. => false | _ => true
mutual
def D.same : D → D → Bool
  | .non, y => match y with | .non => true | _ => false
  | .bl a, y => match y with | .bl b => a == b | _ => false
  | .int i, y => match y with | .int j => decide (i = j) | _ => false
  | .str s, y => match y with | .str t => decide (s = t) | _ => false
  | .tup xs, y => match y with | .tup ys => D.sames xs ys | _ => false
  | .lst _, _ => false
  | .ref _, _ => false
  | .exc _ _, _ => false
def D.sames : List D → List D → Bool
  | [], ys => ys.isEmpty
  | x :: xs, ys => match ys with | [] => false | y :: ys => D.same x y && D.sames xs ys
end
/-- the names of a text: their words, its constants, its classes (with __init__), its functions, names that stand at attributes and methods -/
structure Nm where
  nm : Nat → Str
  con : Nat → D → Bool
  ok : Nat → Bool
  /-- within an except suite; defs that may be called there; exceptions' classes -/
  hot : Bool
  hfn : Nat → Bool
  exn : Nat → Bool
def vis (sc : Scope) (x : Str) : Bool := match sc.names.lookup x with | some .local => true | some .cell => true | some .free => true | _ => false
def loc (sc : Scope) (x : Str) : Bool := match sc.names.lookup x with | some .local => true | some .cell => true | _ => false
def glb (sc : Scope) (x : Str) : Bool := match sc.names.lookup x with | some .globalImplicit => true | _ => false
def okx (x : Str) : Bool := !(x == ("__debug__" : Str)) && !(x == ("__classdict__" : Str))
def lenE : Es → Nat
  | .nil => 0
  | .cons _ es => lenE es + 1
def ownP (N : List Str) (own : List Nat) : List (Str × Nat) := own.map fun i => (N.getD i "", i)
/-- the type that isinstance asks for -/
def mTy (C : Nm) (t : Ty) (y : Str) : Bool := match t with
  | .own k => decide (C.nm k = y) && C.exn k && okx y
  | .verr => decide (y = "ValueError")
  | t => isBt t && decide (y = (Str.ofString (tyN t)))
/-- the names of calls within one another, and how many are handed in -/
def fuN : Fu → Str × Str
  | .lenT => ("len", "set")
  | .sortN => ("sorted", "set")
def fuA : Fu → Nat
  | .lenT => 1 | .sortN => 1
section
variable (C : Nm) (N : List Str)
mutual
/-- a comprehension's target: own names alone -/
def mTo (scope : Scope) (own : List Nat) : T → Expr → Bool
  | .nm i, pe => match pe with
    | .Name x _ => decide (N[i]? = some x) && decide (i ∈ own) && loc scope x
    | _ => false
  | .tp ts, pe => match pe with
    | .Tuple es _ _ => mTos scope own ts es && es.all nostar
    | _ => false
  | .at_ _ _, _ => false
  | .sb _ _, _ => false
def mTos (scope : Scope) (own : List Nat) : Ts → List Expr → Bool
  | .nil, es => es.isEmpty
  | .cons t ts, es => match es with | [] => false | e :: es => mTo scope own t e && mTos scope own ts es
end
def isTx : E → Bool | .txt s => decide (s.length ≤ SZ) | _ => false
mutual
def mE : E → Scope → Expr → Bool
  | .var i, sc, pe => match pe with | .Name x _ => decide (N[i]? = some x) && vis sc x && okx x | _ => false
  | .non, _, pe => match pe with | .Constant .none _ _ => true | _ => false
  | .bl b, _, pe => match pe with | .Constant (.bool c) _ _ => b == c | _ => false
  | .num i, _, pe => match pe with | .Constant (.int j) _ _ => decide (i = j) | _ => false
  | .txt s, _, pe => match pe with | .Constant (.str z) _ _ => decide (z = toS s) | _ => false
  | .glob k d, sc, pe => match pe with | .Name x _ => decide (C.nm k = x) && glb sc x && okx x && C.con k d | _ => false
  | .bin op a b, sc, pe => match pe with | .BinOp pa o pb _ => decide (o = bopO op) && mE a sc pa && mE b sc pb | _ => false
  | .neg a, sc, pe => match pe with | .UnaryOp .USub pa _ => mE a sc pa | _ => false
  | .cmp op a b, sc, pe => match pe with | .Compare pa [o] [pb] _ => decide (o = copO op) && noset pb && mE a sc pa && mE b sc pb | _ => false
  | .cmp2 op op2 a b c, sc, pe => match pe with | .Compare pa [o, o2] [pb, pc] _ => decide (o = copO op) && decide (o2 = copO op2) && noset pb && noset pc && mE a sc pa && mE b sc pb && mE c sc pc | _ => false
  | .and_ es, sc, pe => match pe with | .BoolOp .And vs _ => mEs es sc vs | _ => false
  | .or_ es, sc, pe => match pe with | .BoolOp .Or vs _ => mEs es sc vs | _ => false
  | .not_ a, sc, pe => match pe with | .UnaryOp .Not pa _ => mE a sc pa | _ => false
  | .ifx c a b, sc, pe => match pe with | .IfExp pc pa pb _ => mE c sc pc && mE a sc pa && mE b sc pb | _ => false
  | .call f es, sc, pe => match pe with | .Call (.Name x _) as [] _ => (!C.hot || C.hfn f) && decide (C.nm f = x) && glb sc x && okx x && as.all nostar && mEs es sc as | _ => false
  | .meth k o es, sc, pe => match pe with
    | .Call (.Attribute po m apos) as [] pos => !C.hot && decide (C.nm k = m) && C.ok k && nosup po && as.all nostar && decide (as.length < 29) && (apos.endLine == pos.line) && mE o sc po && mEs es sc as
    | _ => false
  | .make f es, sc, pe => match pe with | .Call (.Name x _) as [] _ => !C.hot && decide (f ≠ 0) && decide (C.nm f = x) && glb sc x && okx x && as.all nostar && mEs es sc as | _ => false
  | .bcall f es, sc, pe => match pe with | .Call (.Name x _) as [] _ => !C.hot && decide (bfN f = x) && glb sc x && as.all nostar && mEs es sc as | _ => false
  | .bmeth f o es, sc, pe => match pe with
    | .Call (.Attribute po m apos) as [] pos => decide (bmN f = m) && nosup po && as.all nostar && decide (as.length < 29) && (apos.endLine == pos.line) && mE o sc po && mEs es sc as
    | _ => false
  | .isin a ts, sc, pe => match pe, ts with
    | .Call (.Name x _) [pa, .Name y _] [] _, [t] => decide (x = "isinstance") && glb sc x && mTy C t y && glb sc y && nostar pa && mE a sc pa
    | .Call (.Name x _) [pa, .Tuple [.Name y _, .Name z _] _ _] [] _, [t, u] => decide (x = "isinstance") && glb sc x && isBt t && decide (y = Str.ofString (tyN t)) && glb sc y && isBt u && decide (z = Str.ofString (tyN u)) && glb sc z && nostar pa && mE a sc pa
    | _, _ => false
  | .attr f o, sc, pe => match pe with | .Attribute po a _ => decide (C.nm f = a) && C.ok f && nosup po && mE o sc po | _ => false
  | .idx a i, sc, pe => match pe with | .Subscript pa pi _ => nosl pi && mE a sc pa && mE i sc pi | _ => false
  | .slc a lo hi, sc, pe => match pe with | .Subscript pa (.Slice pl ph none _) _ => mE a sc pa && mO lo sc pl && mO hi sc ph | _ => false
  | .rev a, sc, pe => match pe with | .Subscript pa (.Slice none none (some (.UnaryOp .USub (.Constant (.int 1) _ _) _)) _) _ => mE a sc pa | _ => false
  | .tup es, sc, pe => match pe with | .Tuple as _ _ => as.all nostar && decide (lenE es ≤ 10000) && mEs es sc as | _ => false
  | .lst es, sc, pe => match pe with | .List as _ => as.all nostar && decide (lenE es ≤ 10000) && mEs es sc as | _ => false
  | .dctK, _, pe => match pe with | .Dict [] [] _ => true | _ => false
  | .lenS e, sc, pe => match pe with
    | .Call (.Name x _) [.Call (.Name y _) [pa] [] _] [] _ => !C.hot && decide (x = "len") && glb sc x && decide (y = "set") && glb sc y && nostar pa && mE e sc pa
    | _ => false
  | .fus f es, sc, pe => match pe with
    | .Call (.Name y _) [.Call (.Name x _) as [] _] [] _ => !C.hot && decide (y = (fuN f).1) && glb sc y && decide (x = (fuN f).2) && glb sc x && as.all nostar && decide (as.length = fuA f) && mEs es sc as
    | _ => false
  | .comp elt tg it cond own, sc, pe => match pe with
    | .ListComp pelt [⟨ptg, pit, pifs, z⟩] scope _ => !C.hot && decide (z = 0) && noset pit && blkC N sc scope (ownP N own) && mI it sc ptg pit && mTo N scope own tg ptg && mE elt (relS scope sc) pelt &&
      (match cond, pifs with
        | .no, [] => true
        | .yes c, [pc] => mE c (relS scope sc) pc
        | _, _ => false)
    | _ => false
  | .compD elt tg e cond own, sc, pe => match pe with
    | .ListComp pelt [⟨ptg, pit, pifs, z⟩] scope _ => !C.hot && decide (z = 0) && blkC N sc scope (ownP N own) && (noset pit && mE e sc pit) && mTo N scope own tg ptg && mE elt (relS scope sc) pelt &&
      (match cond, pifs with
        | .no, [] => true
        | .yes c, [pc] => mE c (relS scope sc) pc
        | _, _ => false)
    | _ => false
def mJs : Es → Scope → List Expr → Bool
  | .nil, _, es => es.isEmpty
  | .cons e es, sc, l => match l with
    | [] => false
    | p :: ps => mJs es sc ps && (match p with
      | .FormattedValue q c none _ => decide (c = -1) && mE e sc q
      | p => isTx e && mE e sc p)
def mEs : Es → Scope → List Expr → Bool
  | .nil, _, es => es.isEmpty
  | .cons e es, sc, l => match l with | [] => false | p :: ps => mE e sc p && mEs es sc ps
def mO : O → Scope → Option Expr → Bool
  | .no, _, p => p.isNone
  | .yes e, sc, p => match p with | some q => mE e sc q | none => false
/-- what is walked, beside the target that it goes to -/
def mI : I → Scope → Expr → Expr → Bool
  | .val e, sc, _, pe => mE e sc pe
  | .rng es, sc, _, pe => match pe with | .Call (.Name x _) as [] _ => decide (x = "range") && glb sc x && as.all nostar && decide (1 ≤ as.length) && decide (as.length ≤ 3) && mEs es sc as | _ => false
  | .enum e, sc, pt, pe => match pt, pe with | .Tuple _ _ _, .Call (.Name x _) [pa] [] _ => decide (x = "enumerate") && glb sc x && nostar pa && mE e sc pa | _, _ => false
  | .zip a b, sc, pt, pe => match pt, pe with | .Tuple _ _ _, .Call (.Name x _) [pa, pb] [] _ => decide (x = "zip") && glb sc x && nostar pa && nostar pb && mE a sc pa && mE b sc pb | _, _ => false
end
end
def REnv (F : PySem.W.Frag) (H : Hp) (r : Mn.Env) (σ : L2.St) : Prop := r.length = σ.length ∧ ∀ i d, vget r i = some d → ∃ v, σ[i]? = some (some v) ∧ Rp F H d v
/-- exceptions: a class, no dict of its own -/
def XL (exc : Nat → Option Addr) (L : Lk) (W : WX) (H : Hp) (X : XD) : Prop := ∀ c r m Ca H2 σ, X c r m → exc c = some Ca → REnv L.F H2 r σ → Rel L m H2 → Kp H H2 → W (.ref Ca) none σ H2
section
variable (exc : Nat → Option Addr) (L : Lk) (W : WX)
def LE (wp : XD → Mn.Env → Hm → PD → Prop) : TE := fun σ H Q => ∃ r m P X, REnv L.F H r σ ∧ Rel L m H ∧ wp X r m P ∧ Kt L H P Q ∧ XL exc L W H X
def LB (wp : XD → Mn.Env → Hm → PD → Prop) : TT := fun σ H Q => ∃ r m P X, REnv L.F H r σ ∧ Rel L m H ∧ wp X r m P ∧
  (∀ x m2 v H2, P x m2 → Rp L.F H2 x v → Rel L m2 H2 → Kp H H2 → ∃ b, truth m2 x = some b ∧ Q b H2) ∧ XL exc L W H X
def LA (k : Nat) (wp : XD → Mn.Env → Hm → (List D → Hm → Prop) → Prop) : TA := fun σ H Q => ∃ r m P X, REnv L.F H r σ ∧ Rel L m H ∧ wp X r m P ∧
  (∀ xs m2 vs H2, xs.length = k → P xs m2 → Rps L.F H2 xs vs → Rel L m2 H2 → Kp H H2 → Q vs H2) ∧ XL exc L W H X
/-- what is walked tells the items in their turn, while it stands still -/
structure ItOk (H_0 : Hp) (J : It) (xs : List D) (st : Hm → Prop) : Prop where
  stop : ∀ m H, Rel L m H → st m → Kp H_0 H → J.stop xs.length H
  go : ∀ i x m H, xs[i]? = some x → Rel L m H → st m → Kp H_0 H → J.go i H ∧ ∀ v H2, J.yld i H v H2 → Rp L.F H2 x v ∧ Rel L m H2 ∧ Kp H H2
end
def lv : Nat → Nat
  | 0 => 0
  | n + 1 => lv n + 2
/-- what a def of the table promises at a depth -/
def spOf (exc : Nat → Option Addr) (L : Lk) (t : Tab) (n : Dn) (c f : Nat) : Sp := fun vs H Q E => ∃ ds m P Xc, Rps L.F H ds vs ∧ Rel L m H ∧ callD t n c f ds m P Xc ∧ Kt L H P Q ∧
  ∀ k m2 Ca H2, Xc k m2 → exc k = some Ca → Rel L m2 H2 → Kp H H2 → E (.ref Ca) none H2
def isBlt (x : Str) : Bool := decide (x ∈ (["len", "abs", "int", "str", "ord", "min", "max", "sum", "all", "any", "sorted", "list", "tuple", "dict", "set", "bool", "range", "enumerate", "zip", "isinstance", "ValueError"] : List Str))
/-- an exception's class of the text, with ValueError behind it -/
structure ExF (K : PySem.W.Frag) (Ca : Addr) : Prop where
  q : PySem.W.excIn K Ca He.veBase "ValueError.__new__" = true
  kp : PySem.W.keepIn K (.ref Ca) = true
  sb : PySem.W.subIn K (.ref Ca) (.type "BaseException") = some true
  ty : PySem.W.typeIn K (.ref Ca) = some (.type "type")
  cl : ExcC K Ca
  ve : PySem.W.kitOne K (.ref Ca) (.type "ValueError") = some true
/-- classes whose exceptions may bear a context -/
def SX (exc : Nat → Option Addr) : Value → Prop := fun c => ∃ Ca, exc 18 = some Ca ∧ c = .ref Ca
/-- p's object is the exception that is handled -/
def Hot0 (A : Around) (p : Addr × Obj) : Prop := A.handled = some (.ref p.1) ∧ ∃ vs : Array Value, p.2.data = .fields vs
def Hld (exc : Nat → Option Addr) (h : Nat × Nat) (p : Addr × Obj) : Prop := p.1 = h.1 ∧ (∃ vs, p.2.data = .fields vs) ∧ ∃ Ca, exc h.2 = some Ca ∧ Zc (.ref Ca) none p.2
/-- what a def promises, called while an exception is handled -/
structure FnK (S : Value → Prop) (P : Program) (w : World) (K : PySem.W.Frag) (mg : Str → Option Value) (base : Heap) (k : Nat) (f : Addr) (fd : FuncData) (ps : List Str) (sp : Sp) (G : Addr × Obj → Prop) : Prop where
  len : ∀ vs H Q E, sp vs H Q E → vs.length = ps.length
  run : ∀ (A : Around) (outer : List PySem.Env) (s : Shared) (H : Hp) (args : Args) (us : List Value) (vs : List V) (Q : VK) (E : XK) (p : Addr × Obj), L2H.RoomH k A → Hot0 A p → G p → L2H.PinOk outer H s p →
    Env0 P w K mg base A outer s H → BindsTo s fd args (ps.zip us) → Vals vs us → sp vs H Q E → codeAny (model P w) A (.call (.ref f) args) (CR (CXk S P w) outer P w H s Q E) s
/-- what does not turn through the law -/
structure Sta (exc : Nat → Option Addr) (L : Lk) (t : Tab) (n : Dn) (C : Nm) (X : Cx) : Prop where
  k : X.K = L.F
  w : X.w = L.w
  nm : L.nm = C.nm
  inj : ∀ a b, C.ok a = true → C.ok b = true → C.nm a = C.nm b → a = b
  okL : L.ok = C.ok
  fldL : L.fld = t.fld
  okF : ∀ c f, t.fld c f = true → C.ok f = true
  blt : ∀ x, isBlt x = true → X.mg x = none
  con : ∀ k d, C.con k d = true → ∃ v u, X.mg (C.nm k) = some u ∧ RelV v u ∧ ∀ H, Rp L.F H d v
  fn : n.hx = none → ∀ f fn, t.F 0 f = some fn → ∃ fa fd ps, X.mg (C.nm f) = some (.ref fa) ∧ PySem.W.keepIn X.K (.ref fa) = true ∧ Binds X.K fd ps [] ∧ FnOk X.prog X.w X.K X.mg X.base (CXk (SX exc) X.prog X.w) (lv n.n) fa fd ps (spOf exc L t n 0 f)
  fnh : ∀ h f fn, t.F 0 f = some fn → C.hfn f = true → ∃ fa fd ps, X.mg (C.nm f) = some (.ref fa) ∧ PySem.W.keepIn X.K (.ref fa) = true ∧ Binds X.K fd ps [] ∧ FnK (SX exc) X.prog X.w X.K X.mg X.base (lv n.n) fa fd ps (spOf exc L t ⟨n.n, some h⟩ 0 f) (Hld exc h)
  met : n.hx = none → ∀ c k fn Ca, t.F c k = some fn → L.cls c = some Ca → C.ok k = true → ∃ fa fd ps, Meth X.K Ca (C.nm k) fa ∧ Binds X.K fd ps [] ∧ FnOk X.prog X.w X.K X.mg X.base (CXk (SX exc) X.prog X.w) (lv n.n) fa fd ps (spOf exc L t n c k)
  mke : n.hx = none → ∀ c fn, c ≠ 0 → t.F c t.ini = some fn → ∃ Ca fa fd ps, L.cls c = some Ca ∧ Mk X.K Ca fa ∧ X.mg (C.nm c) = some (.ref Ca) ∧ Binds X.K fd ps [] ∧ FnOk X.prog X.w X.K X.mg X.base (CXk (SX exc) X.prog X.w) (lv n.n) fa fd ps (spOf exc L t n c t.ini)
  cls : ∀ c Ca, L.cls c = some Ca → Cls X.K Ca
  att : ∀ c Ca f, L.cls c = some Ca → t.fld c f = true → NoAttr X.K Ca (C.nm f)
  exs : ∀ c Ca, exc c = some Ca → ExF X.K Ca
  exg : ∀ k, C.exn k = true → ∃ Ck, X.mg (C.nm k) = some (.ref Ck) ∧ ∀ c Ca, exc c = some Ca → PySem.W.exmOne X.K (.ref Ca) (.ref Ck) = some (t.sub c k) ∧ PySem.W.kitOne X.K (.ref Ca) (.ref Ck) = some (t.sub c k)
  exr : ∀ c, t.ex c = true → ∃ Ca, exc c = some Ca ∧ X.mg (C.nm c) = some (.ref Ca)
structure Ctx (exc : Nat → Option Addr) (L : Lk) (t : Tab) (n : Dn) (C : Nm) (N : List Str) (sc : Scope) (X : Cx) : Prop where
  sta : Sta exc L t n C X
  nn : X.N = N
  sc : X.env.scope = sc
  nd : N.Nodup
  hot : C.hot = n.hx.isSome
  calm : n.hx = none → X.calm = true
  room : n.hx = none → Room (lv n.n + 1) X.A
  roomH : L2H.RoomH (lv n.n + 1) X.A
  own : PassesOwn (model X.prog X.w) X.A X.env X.xe
  hld : ∀ h, n.hx = some h → ∃ p, Hot0 X.A p ∧ p ∈ X.pn ∧ Hld exc h p
end Mn
end

section
set_option Elab.async false
set_option linter.all false
set_option maxRecDepth 100000
set_option maxHeartbeats 4000000
end

section
set_option Elab.async false
set_option linter.all false
set_option maxRecDepth 100000
set_option maxHeartbeats 4000000
namespace Mn
open PySem PySem.Spec PyProof.Rows L2 RZ
section
variable {L : Lk} {m : Hm} {H : Hp} {a b : Addr} {vs : List V}
/-- what is walked within enumerate, zip, by its items -/
structure ScOk (L : Lk) (H : Hp) (A : Sc) (ds : List D) (st : Hm → Prop) : Prop where
  now : ∀ m2 H2, Rel L m2 H2 → st m2 → Kp H H2 → ∃ ws, A.has L.F H2 ws ∧ Rps L.F H2 ds ws
end
end Mn
end

section
set_option Elab.async false
set_option linter.all false
set_option maxRecDepth 100000
set_option maxHeartbeats 4000000
namespace Mn
open PySem PySem.Spec PyProof.Rows L2 RZ
section
variable {exc : Nat → Option Addr} {L : Lk} {t : Tab} {n : Dn} {C : Nm} {N : List Str} {sc : Scope} {X : Cx} {W : WX}
structure OkEs (exc : Nat → Option Addr) (L : Lk) (X : Cx) (W : WX) (g : Sg) (es : Es) (ps : List Expr) : Prop where
  pa : PA X ps (LA exc L W (lenE es) (wpEs g es))
  len : ps.length = lenE es
  an : ps ≠ [] → ∀ pos, PE X (.BoolOp .And ps pos) (LE exc L W (wpAnd g es)) ∧ PW X (.BoolOp .And ps pos) (LB exc L W (wpAnd g es))
  or : ps ≠ [] → ∀ pos, PE X (.BoolOp .Or ps pos) (LE exc L W (wpOr g es)) ∧ PW X (.BoolOp .Or ps pos) (LB exc L W (wpOr g es))
end
end Mn
end

section
set_option Elab.async false
set_option linter.all false
set_option maxRecDepth 100000
set_option maxHeartbeats 4000000
end

section
set_option Elab.async false
set_option linter.all false
set_option maxRecDepth 100000
set_option maxHeartbeats 4000000
end

section
set_option Elab.async false
set_option linter.all false
set_option maxRecDepth 100000
set_option maxHeartbeats 4000000
namespace Mn
open PySem PySem.Spec PyProof.Rows L2 RZ
section
variable {exc : Nat → Option Addr} {L : Lk} {t : Tab} {n : Dn} {C : Nm} {N : List Str} {sc : Scope} {X : Cx} {W : WX}
structure OwnX (L : Lk) (N : List Str) (scope : Scope) (Y : Cx) : Prop where
  k : Y.K = L.F
  nn : Y.N = N
  nd : N.Nodup
  calm : Y.calm = true
  loc : ∀ x, Mn.loc scope x = true → Loc Y.env.scope x ∧ (Y.fn x = true ∨ Y.env.scope.names.lookup x = some .local)
end
end Mn
end

section
set_option Elab.async false
set_option linter.all false
set_option maxRecDepth 100000
set_option maxHeartbeats 4000000
end

section
set_option Elab.async false
set_option linter.all false
set_option maxRecDepth 100000
set_option maxHeartbeats 4000000
namespace Mn
open PySem PySem.Spec PyProof.Rows L2 RZ
def lo_ (sc : Scope) (x : Str) : Bool := match sc.names.lookup x with | some .local => true | _ => false
def isTup : Expr → Bool | .Tuple .. => true | _ => false
def isLc : Expr → Bool | .ListComp .. => true | _ => false
section
variable (C : Nm) (N : List Str)
def mPar (sc : Scope) (pt pe : Expr) : Bool := match pt, pe with
  | .Tuple [.Name x px, .Name y py] _ _, .Tuple [a, b] _ _ => (px.line == py.line) && !(x == y) && lo_ sc x && lo_ sc y && nostar a && nostar b && !(foldedForSure 8 a && foldedForSure 8 b) && !(constantsAlone 8 a && constantsAlone 8 b) &&
      (match sc.kind with | .function => true | _ => false)
  | _, _ => false
/-- x, y = a, b where not both names are plain locals -/
def mCel (sc : Scope) (pt pe : Expr) : Bool := match pt, pe with
  | .Tuple [.Name x _, .Name y _] _ _, .Tuple [_, _] _ _ => !(lo_ sc x) || !(lo_ sc y)
  | _, _ => false
/-- o[i], x = .. -/
def mSub (sc : Scope) (ts : Ts) (pt : Expr) : Bool := match ts, pt with
  | .cons (.sb o i) (.cons (.nm j) .nil), .Tuple [.Subscript po pi _, .Name y _] _ _ => nosl pi && mE C N o sc po && mE C N i sc pi && decide (N[j]? = some y) && loc sc y
  | _, _ => false
def mAsg (t : T) (e : E) (sc : Scope) (pt pe : Expr) : Bool := match t with
  | .nm i => match pt with
    | .Name x px => decide (N[i]? = some x) && loc sc x && (nocomp pe || (isLc pe && (match sc.kind with | .function => true | _ => false))) && mE C N e sc pe
    | _ => false
  | .at_ f o => match pt with
    | .Attribute po a _ => decide (C.nm f = a) && C.ok f && mE C N o sc po && mE C N e sc pe
    | _ => false
  | .sb o i => match pt with
    | .Subscript po pi _ => nosl pi && mE C N o sc po && mE C N i sc pi && mE C N e sc pe
    | _ => false
  | .tp ts => !C.hot && ((mTo N sc (List.range N.length) (.tp ts) pt && (!(isTup pe) || mCel sc pt pe) && mE C N e sc pe) || (mTo N sc (List.range N.length) (.tp ts) pt && mPar sc pt pe && mE C N e sc pe) || (mSub C N sc ts pt && !(isTup pe) && mE C N e sc pe))
end
mutual
def mS (N : List Str) : Nm → S → Scope → Stmt → Bool
  | C, .pass, _, ps => match ps with | .Pass _ => true | _ => false
  | C, .ex e, sc, ps => match ps with | .Expr pe _ => nocomp pe && mE C N e sc pe | _ => false
  | C, .asg t e, sc, ps => match ps with | .Assign [pt] pe _ => mAsg C N t e sc pt pe | _ => false
  | C, .aug t op e, sc, ps => match ps with
    | .AugAssign pt o pe _ => decide (o = bopO op) && mE C N e sc pe &&
      (match t with
        | .nm i => (match pt with | .Name x _ => decide (N[i]? = some x) && loc sc x | _ => false)
        | .at_ f ob => (match pt with | .Attribute po a _ => decide (C.nm f = a) && C.ok f && mE C N ob sc po | _ => false)
        | .sb ob i => (match pt with | .Subscript po pi _ => nosl pi && mE C N ob sc po && mE C N i sc pi | _ => false)
        | .tp _ => false)
    | _ => false
  | C, .ife c a b, sc, ps => match ps with | .If pc pa pb _ => mE C N c sc pc && mSs N C a sc pa && mSs N C b sc pb | _ => false
  | C, .fr t it b, sc, ps => match ps with | .For pt pit pb [] _ => !C.hot && noset pit && mTo N sc (List.range N.length) t pt && mI C N it sc pt pit && mSs N C b sc pb | _ => false
  | C, .whl c b, sc, ps => match ps with | .While pc pb [] _ => mE C N c sc pc && mSs N C b sc pb | _ => false
  | C, .brk, _, ps => match ps with | .Break _ => true | _ => false
  | C, .cnt, _, ps => match ps with | .Continue _ => true | _ => false
  | C, .ret e, sc, ps => match ps with | .Return (some pe) _ => mE C N e sc pe | _ => false
  | C, .ret0, _, ps => match ps with | .Return none _ => true | _ => false
  | C, .rais c, sc, ps => match ps with | .Raise (some (.Call (.Name x _) [.Constant (.str _) _ _] [] _)) none _ => !C.hot && decide (C.nm c = x) && glb sc x && okx x | _ => false
  | C, .nev, _, _ => true
def mSs (N : List Str) : Nm → Ss → Scope → List Stmt → Bool
  | C, .nil, _, l => l.isEmpty
  | C, .cons s ss, sc, l => match l with | [] => false | p :: ps => mS N C s sc p && mSs N C ss sc ps
end
structure SCtx (exc : Nat → Option Addr) (L : Lk) (t : Tab) (n : Dn) (C : Nm) (N : List Str) (sc : Scope) (X : Cx) : Prop extends Ctx exc L t n C N sc X where
  fn : ∀ x, X.fn x = true
  pat : ∀ hd, PassesOwnAt (model X.prog X.w) (X.A.mark hd) X.A X.env X.xe
  stk : X.stack = X.env :: X.outer
  frm : X.env.frame = some X.env.locals
end Mn
end

section
set_option Elab.async false
set_option linter.all false
set_option maxRecDepth 100000
set_option maxHeartbeats 4000000
end

section
set_option Elab.async false
set_option linter.all false
set_option maxRecDepth 100000
set_option maxHeartbeats 4000000
namespace Mn
open PySem PySem.Spec PyProof.Rows L2 RZ
/-- a def: class, name, term, names of its slots, its text -/
structure Dd where
  c : Nat
  f : Nat
  fn : Fn
  N : List Str
  d : He.DefD
structure Pk where
  nms : List Str
  ini : Nat
  defs : List Dd
  cls : List Nat
  fld : List (Nat × Nat)
  con : List (Nat × D)
  /-- classes of exceptions: raised; asked for; which is of which; defs called in except suites -/
  rz : List Nat
  exs : List Nat
  sub : List (Nat × Nat)
  hfn : List Nat
namespace Pk
variable (p : Pk)
def nm (i : Nat) : Str := p.nms.getD i ""
def at_ (c f : Nat) : Option Dd := p.defs.find? fun e => decide (e.c = c) && decide (e.f = f)
def tab : Tab := ⟨fun c f => (p.at_ c f).map (·.fn), p.ini, fun c f => decide ((c, f) ∈ p.fld), fun c => decide (c ∈ p.rz), fun c k => decide ((c, k) ∈ p.sub)⟩
def C : Nm := ⟨p.nm, fun k d => p.con.any fun q => decide (q.1 = k) && D.same q.2 d, fun i => decide (i < p.nms.length), false, fun f => decide (f ∈ p.hfn), fun k => decide (k ∈ p.exs)⟩
def L (K : PySem.W.Frag) (w : World) : Lk := ⟨K, w, p.nm, fun c => if c ∈ p.cls then some (He.ga K (p.nm c)) else none, p.C.ok, p.tab.fld⟩
end Pk
def blts : List Str := ["len", "abs", "int", "str", "ord", "min", "max", "sum", "all", "any", "sorted", "list", "tuple", "dict", "set", "bool", "range", "enumerate", "zip", "isinstance", "ValueError"]
def parN (d : He.DefD) : List Str := d.params.args.map (·.arg)
def scB (N P : List Str) (sc : Scope) : Bool := (match sc.kind with | .function => true | _ => false) && !sc.isCoroutine && !sc.isGenerator && decide N.Nodup && decide (N.take P.length = P) &&
  (P.all fun x => match sc.names.lookup x with | some .local => true | some .cell => true | _ => false) && (sc.names.all fun y => match y.2 with | .free => false | _ => true)
namespace Pk
def okD (p : Pk) (e : Dd) : Bool := decide (e.fn.params = (parN e.d).length) && decide (e.fn.slots = e.N.length) && scB e.N (parN e.d) e.d.scope && e.d.dfl.isEmpty && e.d.kwd.isEmpty &&
  decide (e.d.at_ = if e.c = 0 then (p.nm e.f, none) else (p.nm e.c, some (p.nm e.f))) && decide (e.f < p.nms.length) && (decide (e.c = 0) || decide (e.c ∈ p.cls)) && mSs e.N p.C e.fn.body e.d.scope e.d.body && (!(decide (e.c = 0) && decide (e.f ∈ p.hfn)) || mSs e.N { p.C with hot := true } e.fn.body e.d.scope e.d.body)
def ok (p : Pk) : Bool := decide p.nms.Nodup && (p.fld.all fun q => decide (q.2 < p.nms.length) && decide (q.1 ∈ p.cls)) && (p.cls.all fun c => !decide (c = 0)) && decide (p.nm p.ini = "__init__") && decide (p.ini < p.nms.length) && p.defs.all p.okD
def fa (p : Pk) : List He.Fa := blts.map .free ++ ((p.defs.filter fun e => decide (e.c = 0)).map fun e => .glo (p.nm e.f)) ++ (p.cls.flatMap fun c => [.glo (p.nm c), .cls (p.nm c), .mkr (p.nm c)]) ++
  ((p.defs.filter fun e => !decide (e.c = 0)).map fun e => .meth (p.nm e.c) (p.nm e.f)) ++ (p.fld.map fun q => .noat (p.nm q.1) (p.nm q.2)) ++ (p.rz.flatMap fun c => [.glo (p.nm c), .exc (p.nm c)]) ++ p.exs.flatMap fun k => .glo (p.nm k) :: p.rz.map fun c => .exm (p.nm c) (p.nm k) (decide ((c, k) ∈ p.sub))
def fnl (p : Pk) : List He.DefD := p.defs.map (·.d)
end Pk
mutual
def relK (K : PySem.W.Frag) : D → Value → Bool
  | .non, u => match u with | .none => true | _ => false
  | .bl b, u => match u with | .bool c => b == c | _ => false
  | .int i, u => match u with | .int j _ => decide (i = j) | _ => false
  | .str s, u => match u with | .str z _ => decide (z = toS s) | _ => false
  | .tup ds, u => match u with
    | .ref a => (match K.lookup a with
      | some ⟨.type c, none, .seq its _, _⟩ => decide (c = "tuple") && decide (its.size ≤ sizeLine) && relKs K ds its.toList
      | _ => false)
    | _ => false
  | .lst _, _ => false
  | .ref _, _ => false
  | .exc _ _, _ => false
def relKs (K : PySem.W.Frag) : List D → List Value → Bool
  | [], us => us.isEmpty
  | d :: ds, us => match us with | [] => false | u :: us => relK K d u && relKs K ds us
end
def conB (p : Pk) (K : PySem.W.Frag) : Bool := p.con.all fun q => match PySem.W.nsIn K mainGlobals (p.nm q.1) with
  | some (some u) => relK K q.2 u
  | _ => false
def oneB (K : PySem.W.Frag) (C : Addr) : Bool := He.eqO (PySem.W.findIn K (.ref C) "__getattribute__") (some (some (.builtin "BaseException.__getattribute__"))) && (He.eqO (PySem.W.findIn K (.ref C) "__getattr__") (some none) && (PySem.W.hasDictIn K C &&
  (He.eqO (PySem.W.findIn K (.ref C) "__class__") (some (some (.builtin "object.__class__"))) && (He.eqO (PySem.W.specialIn K (.builtin "object.__class__") "__get__") (some (some (.builtin "getset_descriptor.__get__"))) &&
  (decide (PySem.W.takesIn K (.builtin "object.__class__") = some true) && (decide (PySem.W.mroIn K C (.type "object") = some true) && decide (PySem.W.kitOne K (.ref C) (.type "ValueError") = some true)))))))
def excB (p : Pk) (K : PySem.W.Frag) : Bool := (p.rz.all fun c => oneB K (He.ga K (p.nm c))) && p.rz.all fun c => p.exs.all fun k => decide (PySem.W.kitOne K (.ref (He.ga K (p.nm c))) (.ref (He.ga K (p.nm k))) = some (decide ((c, k) ∈ p.sub)))
def obsM (p : Pk) (K : PySem.W.Frag) : He.AlD := (conB p K && (excB p K && (He.obsD p.fa p.fnl K).1), (He.obsD p.fa p.fnl K).2)
def SaysM (p : Pk) (K : PySem.W.Frag) : Prop := obsM p K = He.valD p.fnl
structure DefAt (p : Pk) (K : PySem.W.Frag) (e : Dd) (fd : FuncData) : Prop where
  fun_ : FunD K e.d.name e.d.qual e.d.params e.d.body e.d.scope [] [] (He.fAd K e.d.at_) fd
  bnd : Binds K fd (parN e.d) []
  okD : p.okD e = true
section
variable {p : Pk} {K : PySem.W.Frag} {P : Program} {w : World} {h base : Heap} {mg : Str → Option Value}
structure Ln (p : Pk) (K : PySem.W.Frag) (mg : Str → Option Value) : Prop where
  ok : p.ok = true
  blt : ∀ x, isBlt x = true → mg x = none
  con : ∀ k d, p.C.con k d = true → ∃ v u, mg (p.nm k) = some u ∧ RelV v u ∧ ∀ H, Rp K H d v
  glo : ∀ e ∈ p.defs, e.c = 0 → mg (p.nm e.f) = some (.ref (He.ga K (p.nm e.f)))
  met : ∀ e ∈ p.defs, e.c ≠ 0 → Meth K (He.ga K (p.nm e.c)) (p.nm e.f) (He.ma K (He.ga K (p.nm e.c)) (p.nm e.f))
  cls : ∀ c ∈ p.cls, mg (p.nm c) = some (.ref (He.ga K (p.nm c))) ∧ Cls K (He.ga K (p.nm c)) ∧ Mk K (He.ga K (p.nm c)) (He.ma K (He.ga K (p.nm c)) "__init__")
  noat : ∀ q ∈ p.fld, NoAttr K (He.ga K (p.nm q.1)) (p.nm q.2)
  exs : ∀ c ∈ p.rz, ExF K (He.ga K (p.nm c)) ∧ mg (p.nm c) = some (.ref (He.ga K (p.nm c)))
  exg : ∀ k ∈ p.exs, mg (p.nm k) = some (.ref (He.ga K (p.nm k))) ∧ ∀ c ∈ p.rz, PySem.W.exmOne K (.ref (He.ga K (p.nm c))) (.ref (He.ga K (p.nm k))) = some (decide ((c, k) ∈ p.sub)) ∧ PySem.W.kitOne K (.ref (He.ga K (p.nm c))) (.ref (He.ga K (p.nm k))) = some (decide ((c, k) ∈ p.sub))
  defs : ∀ e ∈ p.defs, ∃ fd, DefAt p K e fd
end
end Mn
end

section
set_option Elab.async false
set_option linter.all false
set_option maxRecDepth 100000
set_option maxHeartbeats 4000000
namespace Mn.K55
open PySem L2 Mn
/-- is_whole(thing, least, most); slots 0:thing 1:least 2:most -/
def f_is_whole : Fn := ⟨3, 3,
  (.cons (.ret (.and_ (.cons (.isin (.var 0) [.int]) (.cons (.not_ (.isin (.var 0) [.bool])) (.cons (.cmp2 .le .le (.var 1) (.var 0) (.var 2)) .nil)))))
  .nil)⟩
/-- is_name(thing); slots 0:thing 1:sign -/
def f_is_name : Fn := ⟨1, 2,
  (.cons (.ife (.or_ (.cons (.not_ (.isin (.var 0) [.str])) (.cons (.not_ (.cmp2 .le .le (.num 1) (.bcall .len (.cons (.var 0) .nil)) (.glob 22 (D.int 8)))) .nil))) (.cons (.ret (.bl false))
  .nil) .nil)
  (.cons (.ret (.bcall .all (.cons (.comp (.cmp .in_ (.var 1) (.glob 20 (D.str [97, 98, 99, 100, 101, 102, 103, 104, 105, 106, 107, 108, 109, 110, 111, 112, 113, 114, 115, 116, 117, 118, 119, 120, 121, 122]))) (.nm 1) (.val (.var 0)) .no [1]) .nil)))
  .nil))⟩
/-- rises(things); slots 0:things 1:k -/
def f_rises : Fn := ⟨1, 2,
  (.cons (.ret (.bcall .all (.cons (.comp (.cmp .lt (.idx (.var 0) (.var 1)) (.idx (.var 0) (.bin .add (.var 1) (.num 1)))) (.nm 1) (.rng (.cons (.bin .sub (.bcall .len (.cons (.var 0) .nil)) (.num 1)) .nil)) .no [1]) .nil)))
  .nil)⟩
/-- are_rising(thing, many, least, most); slots 0:thing 1:many 2:least 3:most 4:one -/
def f_are_rising : Fn := ⟨4, 5,
  (.cons (.ife (.or_ (.cons (.not_ (.isin (.var 0) [.tuple])) (.cons (.cmp .gt (.bcall .len (.cons (.var 0) .nil)) (.var 1)) .nil))) (.cons (.ret (.bl false))
  .nil) .nil)
  (.cons (.ret (.and_ (.cons (.bcall .all (.cons (.comp (.call 23 (.cons (.var 4) (.cons (.var 2) (.cons (.var 3) .nil)))) (.nm 4) (.val (.var 0)) .no [4]) .nil)) (.cons (.call 25 (.cons (.var 0) .nil)) .nil))))
  .nil))⟩
/-- are_whole(thing, many, least, most); slots 0:thing 1:many 2:least 3:most 4:one -/
def f_are_whole : Fn := ⟨4, 5,
  (.cons (.ife (.or_ (.cons (.not_ (.isin (.var 0) [.tuple])) (.cons (.cmp .ne (.bcall .len (.cons (.var 0) .nil)) (.var 1)) .nil))) (.cons (.ret (.bl false))
  .nil) .nil)
  (.cons (.ret (.bcall .all (.cons (.comp (.call 23 (.cons (.var 4) (.cons (.var 2) (.cons (.var 3) .nil)))) (.nm 4) (.val (.var 0)) .no [4]) .nil)))
  .nil))⟩
/-- is_written(thing, fewest, most); slots 0:thing 1:fewest 2:most 3:sign -/
def f_is_written : Fn := ⟨3, 4,
  (.cons (.ife (.or_ (.cons (.not_ (.isin (.var 0) [.str])) (.cons (.not_ (.cmp2 .le .le (.var 1) (.bcall .len (.cons (.var 0) .nil)) (.var 2))) .nil))) (.cons (.ret (.bl false))
  .nil) .nil)
  (.cons (.ret (.bcall .all (.cons (.comp (.and_ (.cons (.cmp2 .le .le (.num 32) (.bcall .ord (.cons (.var 3) .nil)) (.num 126)) (.cons (.cmp .ne (.bcall .ord (.cons (.var 3) .nil)) (.num 37)) .nil))) (.nm 3) (.val (.var 0)) .no [3]) .nil)))
  .nil))⟩
/-- is_device(thing); slots 0:thing -/
def f_is_device : Fn := ⟨1, 1,
  (.cons (.ife (.or_ (.cons (.not_ (.isin (.var 0) [.tuple])) (.cons (.cmp .ne (.bcall .len (.cons (.var 0) .nil)) (.num 2)) (.cons (.not_ (.isin (.idx (.var 0) (.num 0)) [.str])) .nil)))) (.cons (.ret (.bl false))
  .nil) .nil)
  (.cons (.ret (.and_ (.cons (.cmp .in_ (.idx (.var 0) (.num 0)) (.glob 30 (D.tup [(D.str [115, 101, 101, 107, 101, 114]), (D.str [107, 110, 111, 98]), (D.str [98, 101, 108, 108]), (D.str [100, 111, 111, 114])]))) (.cons (.call 23 (.cons (.idx (.var 0) (.num 1)) (.cons (.num 1) (.cons (.glob 356 (D.int 99)) .nil)))) .nil))))
  .nil))⟩
/-- is_place(thing); slots 0:thing 1:kind 2:address 3:spur 4:one -/
def f_is_place : Fn := ⟨1, 5,
  (.cons (.ife (.or_ (.cons (.not_ (.isin (.var 0) [.tuple])) (.cons (.cmp .ne (.bcall .len (.cons (.var 0) .nil)) (.num 3)) (.cons (.not_ (.isin (.idx (.var 0) (.num 2)) [.tuple])) .nil)))) (.cons (.ret (.bl false))
  .nil) .nil)
  (.cons (.asg (.tp (.cons (.nm 1) (.cons (.nm 2) (.cons (.nm 3) .nil)))) (.var 0))
  (.cons (.ife (.and_ (.cons (.isin (.var 1) [.str]) (.cons (.cmp .eq (.var 1) (.glob 32 (D.str [111, 112, 101, 110, 101, 114]))) .nil))) (.cons (.ret (.and_ (.cons (.call 23 (.cons (.var 2) (.cons (.num 0) (.cons (.num 0) .nil)))) (.cons (.cmp .eq (.bcall .len (.cons (.var 3) .nil)) (.num 0)) .nil))))
  .nil) .nil)
  (.cons (.ret (.and_ (.cons (.call 39 (.cons (.tup (.cons (.var 1) (.cons (.var 2) .nil))) .nil)) (.cons (.cmp .le (.bcall .len (.cons (.var 3) .nil)) (.glob 37 (D.int 3))) (.cons (.bcall .all (.cons (.comp (.call 39 (.cons (.var 4) .nil)) (.nm 4) (.val (.var 3)) .no [4]) .nil)) .nil)))))
  .nil))))⟩
/-- is_loop(thing); slots 0:thing 1:one -/
def f_is_loop : Fn := ⟨1, 2,
  (.cons (.ret (.and_ (.cons (.isin (.var 0) [.tuple]) (.cons (.cmp2 .le .le (.num 1) (.bcall .len (.cons (.var 0) .nil)) (.glob 36 (D.int 12))) (.cons (.bcall .all (.cons (.comp (.call 40 (.cons (.var 1) .nil)) (.nm 1) (.val (.var 0)) .no [1]) .nil)) .nil)))))
  .nil)⟩
/-- is_zone(thing); slots 0:thing -/
def f_is_zone : Fn := ⟨1, 1,
  (.cons (.ife (.or_ (.cons (.not_ (.isin (.var 0) [.tuple])) (.cons (.cmp .ne (.bcall .len (.cons (.var 0) .nil)) (.num 2)) (.cons (.not_ (.call 24 (.cons (.idx (.var 0) (.num 0)) .nil))) .nil)))) (.cons (.ret (.bl false))
  .nil) .nil)
  (.cons (.ret (.and_ (.cons (.call 26 (.cons (.idx (.var 0) (.num 1)) (.cons (.glob 34 (D.int 30)) (.cons (.num 1) (.cons (.glob 356 (D.int 99)) .nil))))) (.cons (.cmp .gt (.bcall .len (.cons (.idx (.var 0) (.num 1)) .nil)) (.num 0)) .nil))))
  .nil))⟩
/-- are_zones(thing); slots 0:thing 1:one 2:zone -/
def f_are_zones : Fn := ⟨1, 3,
  (.cons (.ife (.or_ (.cons (.not_ (.isin (.var 0) [.tuple])) (.cons (.cmp .gt (.bcall .len (.cons (.var 0) .nil)) (.glob 38 (D.int 8))) (.cons (.not_ (.bcall .all (.cons (.comp (.call 42 (.cons (.var 1) .nil)) (.nm 1) (.val (.var 0)) .no [1]) .nil))) .nil)))) (.cons (.ret (.bl false))
  .nil) .nil)
  (.cons (.ret (.cmp .eq (.lenS (.comp (.idx (.var 2) (.num 0)) (.nm 2) (.val (.var 0)) .no [2])) (.bcall .len (.cons (.var 0) .nil))))
  .nil))⟩
/-- is_plan(thing); slots 0:thing 1:loops 2:one -/
def f_is_plan : Fn := ⟨1, 3,
  (.cons (.ife (.or_ (.cons (.not_ (.isin (.var 0) [.tuple])) (.cons (.cmp .ne (.bcall .len (.cons (.var 0) .nil)) (.num 3)) (.cons (.not_ (.call 23 (.cons (.idx (.var 0) (.num 0)) (.cons (.num 1) (.cons (.glob 34 (D.int 30)) .nil))))) .nil)))) (.cons (.ret (.bl false))
  .nil) .nil)
  (.cons (.asg (.nm 1) (.idx (.var 0) (.num 1)))
  (.cons (.ife (.or_ (.cons (.not_ (.isin (.var 1) [.tuple])) (.cons (.not_ (.cmp2 .le .le (.num 1) (.bcall .len (.cons (.var 1) .nil)) (.glob 35 (D.int 3)))) (.cons (.not_ (.bcall .all (.cons (.comp (.call 41 (.cons (.var 2) .nil)) (.nm 2) (.val (.var 1)) .no [2]) .nil))) .nil)))) (.cons (.ret (.bl false))
  .nil) .nil)
  (.cons (.ret (.and_ (.cons (.call 43 (.cons (.idx (.var 0) (.num 2)) .nil)) (.cons (.cmp2 .le .le (.num 1) (.bcall .len (.cons (.call 45 (.cons (.var 0) .nil)) .nil)) (.glob 34 (D.int 30))) .nil))))
  .nil))))⟩
/-- devices(plan); slots 0:plan 1:found 2:loop 3:places 4:at 5:kind 6:address 7:spur 8:way 9:other 10:number -/
def f_devices : Fn := ⟨1, 11,
  (.cons (.asg (.nm 1) (.lst .nil))
  (.cons (.fr (.tp (.cons (.nm 2) (.cons (.nm 3) .nil))) (.enum (.idx (.var 0) (.num 1))) (.cons (.fr (.tp (.cons (.nm 4) (.cons (.tp (.cons (.nm 5) (.cons (.nm 6) (.cons (.nm 7) .nil)))) .nil))) (.enum (.var 3)) (.cons (.ife (.cmp .ne (.var 5) (.glob 32 (D.str [111, 112, 101, 110, 101, 114]))) (.cons (.ex (.bmeth .append (.var 1) (.cons (.tup (.cons (.tup (.cons (.var 2) (.cons (.bin .add (.var 4) (.num 1)) (.cons (.num 0) .nil)))) (.cons (.var 5) (.cons (.var 6) .nil)))) .nil)))
  .nil) .nil)
  (.cons (.fr (.tp (.cons (.nm 8) (.cons (.tp (.cons (.nm 9) (.cons (.nm 10) .nil))) .nil))) (.enum (.var 7)) (.cons (.ex (.bmeth .append (.var 1) (.cons (.tup (.cons (.tup (.cons (.var 2) (.cons (.bin .add (.var 4) (.num 1)) (.cons (.bin .add (.var 8) (.num 1)) .nil)))) (.cons (.var 9) (.cons (.var 10) .nil)))) .nil)))
  .nil))
  .nil)))
  .nil))
  (.cons (.ret (.var 1))
  .nil)))⟩
/-- stretches(plan); slots 0:plan 1:found 2:loop 3:places 4:at 5:place 6:way -/
def f_stretches : Fn := ⟨1, 7,
  (.cons (.asg (.nm 1) (.lst .nil))
  (.cons (.fr (.tp (.cons (.nm 2) (.cons (.nm 3) .nil))) (.enum (.idx (.var 0) (.num 1))) (.cons (.ex (.bmeth .append (.var 1) (.cons (.tup (.cons (.var 2) (.cons (.num 0) (.cons (.num 0) .nil)))) .nil)))
  (.cons (.fr (.tp (.cons (.nm 4) (.cons (.nm 5) .nil))) (.enum (.var 3)) (.cons (.ex (.bmeth .extend (.var 1) (.cons (.comp (.tup (.cons (.var 2) (.cons (.bin .add (.var 4) (.num 1)) (.cons (.var 6) .nil)))) (.nm 6) (.rng (.cons (.bin .add (.bcall .len (.cons (.idx (.var 5) (.num 2)) .nil)) (.num 1)) .nil)) .no [6]) .nil)))
  .nil))
  .nil)))
  (.cons (.ret (.var 1))
  .nil)))⟩
/-- openers(plan); slots 0:plan 1:found 2:loop 3:places 4:at 5:place -/
def f_openers : Fn := ⟨1, 6,
  (.cons (.asg (.nm 1) (.lst .nil))
  (.cons (.fr (.tp (.cons (.nm 2) (.cons (.nm 3) .nil))) (.enum (.idx (.var 0) (.num 1))) (.cons (.ex (.bmeth .append (.var 1) (.cons (.tup (.cons (.var 2) (.cons (.num 0) .nil))) .nil)))
  (.cons (.ex (.bmeth .extend (.var 1) (.cons (.comp (.tup (.cons (.var 2) (.cons (.bin .add (.var 4) (.num 1)) .nil))) (.tp (.cons (.nm 4) (.cons (.nm 5) .nil))) (.enum (.var 3)) (.yes (.cmp .eq (.idx (.var 5) (.num 0)) (.glob 32 (D.str [111, 112, 101, 110, 101, 114])))) [4, 5]) .nil)))
  (.cons (.ex (.bmeth .append (.var 1) (.cons (.tup (.cons (.var 2) (.cons (.bin .add (.bcall .len (.cons (.var 3) .nil)) (.num 1)) .nil))) .nil)))
  .nil))))
  (.cons (.ret (.var 1))
  .nil)))⟩
/-- parts(plan, loop); slots 0:plan 1:loop 2:found 3:at 4:kind 5:address 6:spur 7:way -/
def f_parts : Fn := ⟨2, 8,
  (.cons (.asg (.nm 2) (.lst (.cons (.lst .nil) .nil)))
  (.cons (.fr (.tp (.cons (.nm 3) (.cons (.tp (.cons (.nm 4) (.cons (.nm 5) (.cons (.nm 6) .nil)))) .nil))) (.enum (.idx (.idx (.var 0) (.num 1)) (.var 1))) (.cons (.ife (.cmp .eq (.var 4) (.glob 32 (D.str [111, 112, 101, 110, 101, 114]))) (.cons (.ex (.bmeth .append (.var 2) (.cons (.lst .nil) .nil)))
  .nil) (.cons (.ex (.bmeth .extend (.idx (.var 2) (.neg (.num 1))) (.cons (.comp (.tup (.cons (.var 1) (.cons (.bin .add (.var 3) (.num 1)) (.cons (.var 7) .nil)))) (.nm 7) (.rng (.cons (.bin .add (.bcall .len (.cons (.var 6) .nil)) (.num 1)) .nil)) .no [7]) .nil)))
  .nil))
  .nil))
  (.cons (.ret (.var 2))
  .nil)))⟩
/-- told_twice(plan); slots 0:plan 1:met 2:spot 3:kind 4:address -/
def f_told_twice : Fn := ⟨1, 5,
  (.cons (.asg (.nm 1) .dctK)
  (.cons (.fr (.tp (.cons (.nm 2) (.cons (.nm 3) (.cons (.nm 4) .nil)))) (.val (.call 45 (.cons (.var 0) .nil))) (.cons (.ife (.cmp .in_ (.var 4) (.var 1)) (.cons (.ret (.tup (.cons (.txt [116, 119, 105, 99, 101]) (.cons (.var 4) .nil))))
  .nil) .nil)
  (.cons (.asg (.sb (.var 1) (.var 4)) (.bl true))
  .nil)))
  (.cons (.ret .non)
  .nil)))⟩
/-- crowded(plan); slots 0:plan 1:loop 2:number 3:part -/
def f_crowded : Fn := ⟨1, 4,
  (.cons (.fr (.nm 1) (.rng (.cons (.bcall .len (.cons (.idx (.var 0) (.num 1)) .nil)) .nil)) (.cons (.fr (.tp (.cons (.nm 2) (.cons (.nm 3) .nil))) (.enum (.call 48 (.cons (.var 0) (.cons (.var 1) .nil)))) (.cons (.ife (.cmp .gt (.bcall .len (.cons (.var 3) .nil)) (.idx (.var 0) (.num 0))) (.cons (.ret (.tup (.cons (.txt [99, 114, 111, 119, 100, 101, 100]) (.cons (.var 1) (.cons (.var 2) .nil)))))
  .nil) .nil)
  .nil))
  .nil))
  (.cons (.ret .non)
  .nil))⟩
/-- zone_at_odds(plan); slots 0:plan 1:known 2:spot 3:kind 4:address 5:shared 6:met 7:name 8:addresses -/
def f_zone_at_odds : Fn := ⟨1, 9,
  (.cons (.asg (.nm 1) (.comp (.var 4) (.tp (.cons (.nm 2) (.cons (.nm 3) (.cons (.nm 4) .nil)))) (.val (.call 45 (.cons (.var 0) .nil))) (.yes (.cmp .in_ (.var 3) (.glob 31 (D.tup [(D.str [115, 101, 101, 107, 101, 114]), (D.str [107, 110, 111, 98])])))) [2, 3, 4]))
  (.cons (.asg (.nm 5) .non)
  (.cons (.asg (.nm 6) .dctK)
  (.cons (.fr (.tp (.cons (.nm 7) (.cons (.nm 8) .nil))) (.val (.idx (.var 0) (.num 2))) (.cons (.fr (.nm 4) (.val (.var 8)) (.cons (.ife (.cmp .nin (.var 4) (.var 1)) (.cons (.ret (.tup (.cons (.txt [115, 116, 114, 97, 110, 103, 101, 114]) (.cons (.var 7) (.cons (.var 4) .nil)))))
  .nil) .nil)
  (.cons (.ife (.and_ (.cons (.cmp .in_ (.var 4) (.var 6)) (.cons (.cmp .is_ (.var 5) .non) .nil))) (.cons (.asg (.nm 5) (.tup (.cons (.txt [115, 104, 97, 114, 101, 100]) (.cons (.var 7) (.cons (.var 4) .nil)))))
  .nil) .nil)
  .nil)))
  (.cons (.fr (.nm 4) (.val (.var 8)) (.cons (.asg (.sb (.var 6) (.var 4)) (.bl true))
  .nil))
  .nil)))
  (.cons (.ret (.var 5))
  .nil)))))⟩
/-- wrong(plan); slots 0:plan 1:found -/
def f_wrong : Fn := ⟨1, 2,
  (.cons (.fr (.nm 1) (.val (.tup (.cons (.call 49 (.cons (.var 0) .nil)) (.cons (.call 50 (.cons (.var 0) .nil)) (.cons (.call 51 (.cons (.var 0) .nil)) .nil))))) (.cons (.ife (.cmp .isn (.var 1) .non) (.cons (.ret (.var 1))
  .nil) .nil)
  .nil))
  (.cons (.ret .non)
  .nil))⟩
/-- is_let_by(thing); slots 0:thing -/
def f_is_let_by : Fn := ⟨1, 1,
  (.cons (.ret (.and_ (.cons (.call 44 (.cons (.var 0) .nil)) (.cons (.cmp .is_ (.call 52 (.cons (.var 0) .nil)) .non) .nil))))
  .nil)⟩
/-- spur_come_to(plan, hows, loop, at); slots 0:plan 1:hows 2:loop 3:at 4:passed 5:spots 6:way -/
def f_spur_come_to : Fn := ⟨4, 7,
  (.cons (.asg (.nm 4) (.lst .nil))
  (.cons (.asg (.nm 5) (.lst (.cons (.tup (.cons (.var 2) (.cons (.var 3) (.cons (.num 0) .nil)))) .nil)))
  (.cons (.fr (.nm 6) (.rng (.cons (.num 1) (.cons (.bin .add (.bcall .len (.cons (.idx (.idx (.idx (.idx (.var 0) (.num 1)) (.var 2)) (.bin .sub (.var 3) (.num 1))) (.num 2)) .nil)) (.num 1)) .nil))) (.cons (.ife (.cmp .eq (.bmeth .get (.var 1) (.cons (.tup (.cons (.var 2) (.cons (.var 3) (.cons (.var 6) .nil)))) (.cons (.txt []) .nil))) (.txt [99, 117, 116])) (.cons .brk
  .nil) .nil)
  (.cons (.ex (.bmeth .append (.var 4) (.cons (.tup (.cons (.var 2) (.cons (.var 3) (.cons (.var 6) .nil)))) .nil)))
  (.cons (.ex (.bmeth .append (.var 5) (.cons (.tup (.cons (.var 2) (.cons (.var 3) (.cons (.var 6) .nil)))) .nil)))
  .nil))))
  (.cons (.ret (.tup (.cons (.var 4) (.cons (.var 5) .nil))))
  .nil))))⟩
/-- come_to(plan, hows, stops, loop, place, step); slots 0:plan 1:hows 2:stops 3:loop 4:place 5:step 6:many 7:passed 8:spots 9:at 10:more 11:others -/
def f_come_to : Fn := ⟨6, 12,
  (.cons (.asg (.nm 6) (.bcall .len (.cons (.idx (.idx (.var 0) (.num 1)) (.var 3)) .nil)))
  (.cons (.asg (.nm 7) (.lst .nil))
  (.cons (.asg (.nm 8) (.lst .nil))
  (.cons (.asg (.nm 9) (.var 4))
  (.cons (.whl (.cmp .ne (.bmeth .get (.var 1) (.cons (.tup (.cons (.var 3) (.cons (.bcall .min (.cons (.var 9) (.cons (.bin .add (.var 9) (.var 5)) .nil))) (.cons (.num 0) .nil)))) (.cons (.txt []) .nil))) (.txt [99, 117, 116])) (.cons (.ex (.bmeth .append (.var 7) (.cons (.tup (.cons (.var 3) (.cons (.bcall .min (.cons (.var 9) (.cons (.bin .add (.var 9) (.var 5)) .nil))) (.cons (.num 0) .nil)))) .nil)))
  (.cons (.asg (.nm 9) (.bin .add (.var 9) (.var 5)))
  (.cons (.ife (.or_ (.cons (.cmp .lt (.var 9) (.num 1)) (.cons (.cmp .gt (.var 9) (.var 6)) .nil))) (.cons .brk
  .nil) .nil)
  (.cons (.asg (.tp (.cons (.nm 10) (.cons (.nm 11) .nil))) (.call 62 (.cons (.var 0) (.cons (.var 1) (.cons (.var 3) (.cons (.var 9) .nil))))))
  (.cons (.ex (.bmeth .extend (.var 7) (.cons (.var 10) .nil)))
  (.cons (.ex (.bmeth .extend (.var 8) (.cons (.var 11) .nil)))
  (.cons (.ife (.cmp .in_ (.tup (.cons (.var 3) (.cons (.var 9) .nil))) (.var 2)) (.cons .brk
  .nil) .nil)
  .nil))))))))
  (.cons (.ret (.tup (.cons (.var 7) (.cons (.var 8) .nil))))
  .nil))))))⟩
/-- steps_of(plan, opener); slots 0:plan 1:opener 2:loop 3:place -/
def f_steps_of : Fn := ⟨2, 4,
  (.cons (.asg (.tp (.cons (.nm 2) (.cons (.nm 3) .nil))) (.var 1))
  (.cons (.ife (.cmp .eq (.var 3) (.num 0)) (.cons (.ret (.lst (.cons (.num 1) .nil)))
  .nil) .nil)
  (.cons (.ife (.cmp .gt (.var 3) (.bcall .len (.cons (.idx (.idx (.var 0) (.num 1)) (.var 2)) .nil))) (.cons (.ret (.lst (.cons (.neg (.num 1)) .nil)))
  .nil) .nil)
  (.cons (.ret (.lst (.cons (.neg (.num 1)) (.cons (.num 1) .nil))))
  .nil))))⟩
/-- feels(plan, hows, stops, opener); slots 0:plan 1:hows 2:stops 3:opener 4:step 5:passed 6:spots 7:stretch -/
def f_feels : Fn := ⟨4, 8,
  (.cons (.fr (.nm 4) (.val (.call 64 (.cons (.var 0) (.cons (.var 3) .nil)))) (.cons (.asg (.tp (.cons (.nm 5) (.cons (.nm 6) .nil))) (.call 63 (.cons (.var 0) (.cons (.var 1) (.cons (.var 2) (.cons (.idx (.var 3) (.num 0)) (.cons (.idx (.var 3) (.num 1)) (.cons (.var 4) .nil))))))))
  (.cons (.ife (.bcall .any (.cons (.comp (.cmp .eq (.bmeth .get (.var 1) (.cons (.var 7) (.cons (.txt []) .nil))) (.txt [115, 104, 111, 114, 116])) (.nm 7) (.val (.var 5)) .no [7]) .nil)) (.cons (.ret (.bl true))
  .nil) .nil)
  .nil)))
  (.cons (.ret (.bl false))
  .nil))⟩
/-- all_rest(plan, hows, stops); slots 0:plan 1:hows 2:stops 3:opener -/
def f_all_rest : Fn := ⟨3, 4,
  (.cons (.ret (.bcall .all (.cons (.comp (.cmp .eq (.call 65 (.cons (.var 0) (.cons (.var 1) (.cons (.var 2) (.cons (.var 3) .nil))))) (.cmp .in_ (.var 3) (.var 2))) (.nm 3) (.val (.call 47 (.cons (.var 0) .nil))) .no [3]) .nil)))
  .nil)⟩
/-- is_brought(thing); slots 0:thing -/
def f_is_brought : Fn := ⟨1, 1,
  (.cons (.ife (.or_ (.cons (.not_ (.isin (.var 0) [.tuple])) (.cons (.cmp .ne (.bcall .len (.cons (.var 0) .nil)) (.num 3)) (.cons (.not_ (.call 26 (.cons (.idx (.var 0) (.num 0)) (.cons (.glob 139 (D.int 30)) (.cons (.num 1) (.cons (.glob 357 (D.int 99)) .nil)))))) .nil)))) (.cons (.ret (.bl false))
  .nil) .nil)
  (.cons (.ret (.and_ (.cons (.call 26 (.cons (.idx (.var 0) (.num 1)) (.cons (.bin .add (.glob 133 (D.int 9)) (.num 1)) (.cons (.num 0) (.cons (.glob 133 (D.int 9)) .nil))))) (.cons (.call 23 (.cons (.idx (.var 0) (.num 2)) (.cons (.num 0) (.cons (.glob 134 (D.int 23)) .nil)))) .nil))))
  .nil))⟩
/-- is_history(thing); slots 0:thing 1:one -/
def f_is_history : Fn := ⟨1, 2,
  (.cons (.ret (.and_ (.cons (.isin (.var 0) [.list]) (.cons (.cmp2 .le .le (.num 1) (.bcall .len (.cons (.var 0) .nil)) (.glob 140 (D.int 60))) (.cons (.bcall .all (.cons (.comp (.call 146 (.cons (.var 1) .nil)) (.nm 1) (.val (.var 0)) .no [1]) .nil)) .nil)))))
  .nil)⟩
/-- in_hours(first, last, hour); slots 0:first 1:last 2:hour -/
def f_in_hours : Fn := ⟨3, 3,
  (.cons (.ife (.cmp .lt (.var 0) (.var 1)) (.cons (.ret (.cmp2 .le .lt (.var 0) (.var 2) (.var 1)))
  .nil) .nil)
  (.cons (.ret (.or_ (.cons (.cmp .eq (.var 0) (.var 1)) (.cons (.cmp .ge (.var 2) (.var 0)) (.cons (.cmp .lt (.var 2) (.var 1)) .nil)))))
  .nil))⟩
/-- is_row(thing, at); slots 0:thing 1:at 2:word 3:size -/
def f_is_row : Fn := ⟨2, 4,
  (.cons (.ife (.or_ (.cons (.not_ (.isin (.var 0) [.tuple])) (.cons (.cmp .eq (.bcall .len (.cons (.var 0) .nil)) (.num 0)) (.cons (.not_ (.isin (.idx (.var 0) (.num 0)) [.str])) .nil)))) (.cons (.ret (.bl false))
  .nil) .nil)
  (.cons (.asg (.tp (.cons (.nm 2) (.cons (.nm 3) .nil))) (.tup (.cons (.idx (.var 0) (.num 0)) (.cons (.bcall .len (.cons (.var 0) .nil)) .nil))))
  (.cons (.ife (.and_ (.cons (.cmp .eq (.var 2) (.txt [109, 97, 110, 121])) (.cons (.cmp .eq (.var 3) (.num 3)) (.cons (.call 23 (.cons (.idx (.var 0) (.num 1)) (.cons (.num 1) (.cons (.glob 132 (D.int 9)) .nil)))) .nil)))) (.cons (.ret (.and_ (.cons (.call 26 (.cons (.idx (.var 0) (.num 2)) (.cons (.glob 139 (D.int 30)) (.cons (.num 1) (.cons (.glob 357 (D.int 99)) .nil))))) (.cons (.cmp .gt (.bcall .len (.cons (.idx (.var 0) (.num 2)) .nil)) (.num 0)) .nil))))
  .nil) .nil)
  (.cons (.ife (.and_ (.cons (.cmp .eq (.var 2) (.txt [107, 101, 121])) (.cons (.cmp .eq (.var 3) (.num 2)) .nil))) (.cons (.ret (.call 23 (.cons (.idx (.var 0) (.num 1)) (.cons (.num 0) (.cons (.glob 133 (D.int 9)) .nil)))))
  .nil) .nil)
  (.cons (.ife (.and_ (.cons (.cmp .eq (.var 2) (.txt [104, 111, 117, 114, 115])) (.cons (.cmp .eq (.var 3) (.num 3)) .nil))) (.cons (.ret (.and_ (.cons (.call 23 (.cons (.idx (.var 0) (.num 1)) (.cons (.num 0) (.cons (.glob 134 (D.int 23)) .nil)))) (.cons (.call 23 (.cons (.idx (.var 0) (.num 2)) (.cons (.num 0) (.cons (.glob 134 (D.int 23)) .nil)))) .nil))))
  .nil) .nil)
  (.cons (.ife (.and_ (.cons (.cmp .eq (.var 2) (.txt [110, 111, 116])) (.cons (.cmp .eq (.var 3) (.num 2)) .nil))) (.cons (.ret (.call 23 (.cons (.idx (.var 0) (.num 1)) (.cons (.num 0) (.cons (.bin .sub (.var 1) (.num 1)) .nil)))))
  .nil) .nil)
  (.cons (.ife (.or_ (.cons (.and_ (.cons (.cmp .in_ (.var 2) (.tup (.cons (.txt [97, 110, 100]) (.cons (.txt [111, 114]) .nil)))) (.cons (.cmp .eq (.var 3) (.num 3)) .nil))) (.cons (.and_ (.cons (.cmp .eq (.var 2) (.txt [116, 104, 101, 110])) (.cons (.cmp .eq (.var 3) (.num 4)) (.cons (.call 23 (.cons (.idx (.var 0) (.num 3)) (.cons (.num 1) (.cons (.glob 135 (D.int 20)) .nil)))) .nil)))) .nil))) (.cons (.ret (.and_ (.cons (.call 23 (.cons (.idx (.var 0) (.num 1)) (.cons (.num 0) (.cons (.bin .sub (.var 1) (.num 1)) .nil)))) (.cons (.call 23 (.cons (.idx (.var 0) (.num 2)) (.cons (.num 0) (.cons (.bin .sub (.var 1) (.num 1)) .nil)))) .nil))))
  .nil) .nil)
  (.cons (.ret (.bl false))
  .nil))))))))⟩
/-- is_out(thing, many); slots 0:thing 1:many -/
def f_is_out : Fn := ⟨2, 2,
  (.cons (.ife (.or_ (.cons (.not_ (.isin (.var 0) [.tuple])) (.cons (.cmp .ne (.bcall .len (.cons (.var 0) .nil)) (.num 2)) .nil))) (.cons (.ret (.bl false))
  .nil) .nil)
  (.cons (.ret (.and_ (.cons (.call 23 (.cons (.idx (.var 0) (.num 0)) (.cons (.num 1) (.cons (.glob 357 (D.int 99)) .nil)))) (.cons (.call 23 (.cons (.idx (.var 0) (.num 1)) (.cons (.num 0) (.cons (.bin .sub (.var 1) (.num 1)) .nil)))) .nil))))
  .nil))⟩
/-- is_table(thing); slots 0:thing 1:rows 2:outs 3:at 4:row 5:out -/
def f_is_table : Fn := ⟨1, 6,
  (.cons (.ife (.or_ (.cons (.not_ (.isin (.var 0) [.tuple])) (.cons (.cmp .ne (.bcall .len (.cons (.var 0) .nil)) (.num 2)) (.cons (.not_ (.isin (.idx (.var 0) (.num 0)) [.tuple])) .nil)))) (.cons (.ret (.bl false))
  .nil) .nil)
  (.cons (.asg (.tp (.cons (.nm 1) (.cons (.nm 2) .nil))) (.var 0))
  (.cons (.ife (.or_ (.cons (.cmp .gt (.bcall .len (.cons (.var 1) .nil)) (.glob 168 (D.int 320))) (.cons (.not_ (.bcall .all (.cons (.comp (.call 169 (.cons (.var 4) (.cons (.var 3) .nil))) (.tp (.cons (.nm 3) (.cons (.nm 4) .nil))) (.enum (.var 1)) .no [3, 4]) .nil))) .nil))) (.cons (.ret (.bl false))
  .nil) .nil)
  (.cons (.ife (.or_ (.cons (.not_ (.isin (.var 2) [.tuple])) (.cons (.cmp .gt (.bcall .len (.cons (.var 2) .nil)) (.glob 138 (D.int 16))) (.cons (.not_ (.bcall .all (.cons (.comp (.call 170 (.cons (.var 5) (.cons (.bcall .len (.cons (.var 1) .nil)) .nil))) (.nm 5) (.val (.var 2)) .no [5]) .nil))) .nil)))) (.cons (.ret (.bl false))
  .nil) .nil)
  (.cons (.ret (.call 25 (.cons (.comp (.idx (.var 5) (.num 0)) (.nm 5) (.val (.var 2)) .no [5]) .nil)))
  .nil)))))⟩
/-- Runner.__init__(self, table); slots 0:self 1:table -/
def f_Runner___init__ : Fn := ⟨2, 2,
  (.cons (.asg (.at_ 175 (.var 0)) (.idx (.var 1) (.num 0)))
  (.cons (.asg (.at_ 182 (.var 0)) (.idx (.var 1) (.num 1)))
  (.cons (.asg (.at_ 183 (.var 0)) (.lst .nil))
  .nil)))⟩
/-- Runner.beat(self, warned, turned, hour); slots 0:self 1:warned 2:turned 3:hour 4:now 5:row 6:address 7:number -/
def f_Runner_beat : Fn := ⟨4, 8,
  (.cons (.asg (.nm 4) (.lst .nil))
  (.cons (.fr (.nm 5) (.val (.attr 175 (.var 0))) (.cons (.ex (.bmeth .append (.var 4) (.cons (.meth 181 (.var 0) (.cons (.var 5) (.cons (.var 4) (.cons (.tup (.cons (.var 1) (.cons (.var 2) (.cons (.var 3) .nil)))) .nil)))) .nil)))
  .nil))
  (.cons (.asg (.at_ 183 (.var 0)) (.slc (.bin .add (.attr 183 (.var 0)) (.lst (.cons (.var 4) .nil))) (.yes (.neg (.glob 135 (D.int 20)))) .no))
  (.cons (.ret (.bcall .tuple (.cons (.comp (.var 6) (.tp (.cons (.nm 6) (.cons (.nm 7) .nil))) (.val (.attr 182 (.var 0))) (.yes (.idx (.var 4) (.var 7))) [6, 7]) .nil)))
  .nil))))⟩
/-- Runner.holds_now(self, row, now, brought); slots 0:self 1:row 2:now 3:brought 4:word 5:warned 6:turned 7:hour 8:one 9:held -/
def f_Runner_holds_now : Fn := ⟨4, 10,
  (.cons (.asg (.nm 4) (.idx (.var 1) (.num 0)))
  (.cons (.asg (.tp (.cons (.nm 5) (.cons (.nm 6) (.cons (.nm 7) .nil)))) (.var 3))
  (.cons (.ife (.cmp .eq (.var 4) (.txt [109, 97, 110, 121])) (.cons (.ret (.cmp .ge (.bcall .len (.cons (.comp (.var 8) (.nm 8) (.val (.idx (.var 1) (.num 2))) (.yes (.cmp .in_ (.var 8) (.var 5))) [8]) .nil)) (.idx (.var 1) (.num 1))))
  .nil) .nil)
  (.cons (.ife (.cmp .eq (.var 4) (.txt [107, 101, 121])) (.cons (.ret (.cmp .in_ (.idx (.var 1) (.num 1)) (.var 6)))
  .nil) .nil)
  (.cons (.ife (.cmp .eq (.var 4) (.txt [104, 111, 117, 114, 115])) (.cons (.ret (.call 159 (.cons (.idx (.var 1) (.num 1)) (.cons (.idx (.var 1) (.num 2)) (.cons (.var 7) .nil)))))
  .nil) .nil)
  (.cons (.ife (.cmp .eq (.var 4) (.txt [110, 111, 116])) (.cons (.ret (.not_ (.idx (.var 2) (.idx (.var 1) (.num 1)))))
  .nil) .nil)
  (.cons (.ife (.cmp .eq (.var 4) (.txt [97, 110, 100])) (.cons (.ret (.and_ (.cons (.idx (.var 2) (.idx (.var 1) (.num 1))) (.cons (.idx (.var 2) (.idx (.var 1) (.num 2))) .nil))))
  .nil) .nil)
  (.cons (.ife (.cmp .eq (.var 4) (.txt [111, 114])) (.cons (.ret (.or_ (.cons (.idx (.var 2) (.idx (.var 1) (.num 1))) (.cons (.idx (.var 2) (.idx (.var 1) (.num 2))) .nil))))
  .nil) .nil)
  (.cons (.ret (.and_ (.cons (.idx (.var 2) (.idx (.var 1) (.num 2))) (.cons (.bcall .any (.cons (.comp (.idx (.var 9) (.idx (.var 1) (.num 1))) (.nm 9) (.val (.slc (.attr 183 (.var 0)) (.yes (.neg (.idx (.var 1) (.num 3)))) .no)) .no [9]) .nil)) .nil))))
  .nil)))))))))⟩
/-- is_text_of(thing, some); slots 0:thing 1:some -/
def f_is_text_of : Fn := ⟨2, 2,
  (.cons (.ret (.and_ (.cons (.isin (.var 0) [.str]) (.cons (.cmp .in_ (.var 0) (.var 1)) .nil))))
  .nil)⟩
/-- is_fault(plan, thing); slots 0:plan 1:thing -/
def f_is_fault : Fn := ⟨2, 2,
  (.cons (.ife (.or_ (.cons (.not_ (.isin (.var 1) [.tuple])) (.cons (.cmp .ne (.bcall .len (.cons (.var 1) .nil)) (.num 2)) (.cons (.not_ (.call 281 (.cons (.idx (.var 1) (.num 1)) (.cons (.glob 258 (D.tup [(D.str [99, 117, 116]), (D.str [115, 104, 111, 114, 116])])) .nil)))) .nil)))) (.cons (.ret (.bl false))
  .nil) .nil)
  (.cons (.ret (.and_ (.cons (.call 27 (.cons (.idx (.var 1) (.num 0)) (.cons (.num 3) (.cons (.num 0) (.cons (.glob 68 (D.int 99)) .nil))))) (.cons (.cmp .in_ (.idx (.var 1) (.num 0)) (.call 46 (.cons (.var 0) .nil))) .nil))))
  .nil))⟩
/-- are_faults(plan, thing); slots 0:plan 1:thing 2:one -/
def f_are_faults : Fn := ⟨2, 3,
  (.cons (.ife (.or_ (.cons (.not_ (.isin (.var 1) [.tuple])) (.cons (.not_ (.bcall .all (.cons (.comp (.call 282 (.cons (.var 0) (.cons (.var 2) .nil))) (.nm 2) (.val (.var 1)) .no [2]) .nil))) (.cons (.not_ (.call 25 (.cons (.var 1) .nil))) .nil)))) (.cons (.ret (.bl false))
  .nil) .nil)
  (.cons (.ret (.cmp .eq (.fus .lenT (.cons (.comp (.idx (.var 2) (.num 0)) (.nm 2) (.val (.var 1)) .no [2]) .nil)) (.bcall .len (.cons (.var 1) .nil))))
  .nil))⟩
/-- is_opener(plan, thing); slots 0:plan 1:thing -/
def f_is_opener : Fn := ⟨2, 2,
  (.cons (.ret (.and_ (.cons (.call 27 (.cons (.var 1) (.cons (.num 2) (.cons (.num 0) (.cons (.glob 68 (D.int 99)) .nil))))) (.cons (.cmp .in_ (.var 1) (.call 47 (.cons (.var 0) .nil))) .nil))))
  .nil)⟩
/-- are_openers(plan, thing); slots 0:plan 1:thing 2:one -/
def f_are_openers : Fn := ⟨2, 3,
  (.cons (.ret (.and_ (.cons (.isin (.var 1) [.tuple]) (.cons (.bcall .all (.cons (.comp (.call 284 (.cons (.var 0) (.cons (.var 2) .nil))) (.nm 2) (.val (.var 1)) .no [2]) .nil)) (.cons (.call 25 (.cons (.var 1) .nil)) .nil)))))
  .nil)⟩
/-- all_so(plan, faults, parted); slots 0:plan 1:faults 2:parted 3:one -/
def f_all_so : Fn := ⟨3, 4,
  (.cons (.ife (.or_ (.cons (.not_ (.call 53 (.cons (.var 0) .nil))) (.cons (.not_ (.call 283 (.cons (.var 0) (.cons (.var 1) .nil)))) (.cons (.not_ (.call 285 (.cons (.var 0) (.cons (.var 2) .nil)))) .nil)))) (.cons (.ret (.bl false))
  .nil) .nil)
  (.cons (.ret (.call 66 (.cons (.var 0) (.cons (.bcall .dict (.cons (.var 1) .nil)) (.cons (.bcall .dict (.cons (.comp (.tup (.cons (.var 3) (.cons (.bl true) .nil))) (.nm 3) (.val (.var 2)) .no [3]) .nil)) .nil)))))
  .nil))⟩
/-- is_spot(plan, thing); slots 0:plan 1:thing 2:spot 3:kind 4:address -/
def f_is_spot : Fn := ⟨2, 5,
  (.cons (.ret (.and_ (.cons (.call 27 (.cons (.var 1) (.cons (.num 3) (.cons (.num 0) (.cons (.glob 68 (D.int 99)) .nil))))) (.cons (.cmp .in_ (.var 1) (.comp (.var 2) (.tp (.cons (.nm 2) (.cons (.nm 3) (.cons (.nm 4) .nil)))) (.val (.call 45 (.cons (.var 0) .nil))) .no [2, 3, 4])) .nil))))
  .nil)⟩
/-- goes_on(plan, faults, parted, way, step); slots 0:plan 1:faults 2:parted 3:way 4:step 5:cut 6:stretch 7:how 8:here 9:there -/
def f_goes_on : Fn := ⟨5, 10,
  (.cons (.asg (.nm 5) (.comp (.var 6) (.tp (.cons (.nm 6) (.cons (.nm 7) .nil))) (.val (.var 1)) (.yes (.cmp .eq (.var 7) (.txt [99, 117, 116]))) [6, 7]))
  (.cons (.fr (.tp (.cons (.nm 8) (.cons (.nm 9) .nil))) (.zip (.var 3) (.slc (.var 3) (.yes (.num 1)) .no)) (.cons (.asg (.nm 6) (.tup (.cons (.idx (.var 8) (.num 0)) (.cons (.bcall .min (.cons (.idx (.var 8) (.num 1)) (.cons (.idx (.var 9) (.num 1)) .nil))) (.cons (.num 0) .nil)))))
  (.cons (.ife (.or_ (.cons (.cmp .ne (.var 9) (.tup (.cons (.idx (.var 8) (.num 0)) (.cons (.bin .add (.idx (.var 8) (.num 1)) (.var 4)) (.cons (.num 0) .nil))))) (.cons (.cmp .in_ (.var 6) (.var 5)) (.cons (.cmp .in_ (.slc (.var 8) .no (.yes (.num 2))) (.var 2)) .nil)))) (.cons (.ret (.bl false))
  .nil) .nil)
  .nil)))
  (.cons (.ret (.bl true))
  .nil)))⟩
/-- is_heard(claim, way); slots 0:claim 1:way 2:word 3:plan 4:faults 5:parted 6:end 7:spot 8:one 9:loop 10:place 11:spur 12:first 13:at -/
def f_is_heard : Fn := ⟨2, 14,
  (.cons (.asg (.tp (.cons (.nm 2) (.cons (.nm 3) (.cons (.nm 4) (.cons (.nm 5) (.cons (.nm 6) (.cons (.nm 7) .nil))))))) (.var 0))
  (.cons (.ife (.or_ (.cons (.not_ (.call 286 (.cons (.var 3) (.cons (.var 4) (.cons (.var 5) .nil))))) (.cons (.not_ (.call 281 (.cons (.var 6) (.cons (.glob 276 (D.tup [(D.str [65]), (D.str [66])])) .nil)))) (.cons (.not_ (.call 287 (.cons (.var 3) (.cons (.var 7) .nil)))) .nil)))) (.cons (.ret (.bl false))
  .nil) .nil)
  (.cons (.ife (.or_ (.cons (.not_ (.isin (.var 1) [.tuple])) (.cons (.cmp .lt (.bcall .len (.cons (.var 1) .nil)) (.num 2)) (.cons (.not_ (.bcall .all (.cons (.comp (.call 27 (.cons (.var 8) (.cons (.num 3) (.cons (.num 0) (.cons (.glob 68 (D.int 99)) .nil))))) (.nm 8) (.val (.var 1)) .no [8]) .nil))) .nil)))) (.cons (.ret (.bl false))
  .nil) .nil)
  (.cons (.asg (.tp (.cons (.nm 9) (.cons (.nm 10) (.cons (.nm 11) .nil)))) (.var 7))
  (.cons (.asg (.nm 12) (.tup (.cons (.var 9) (.cons (.idx (.lst (.cons (.num 0) (.cons (.bin .add (.bcall .len (.cons (.idx (.idx (.var 3) (.num 1)) (.var 9)) .nil)) (.num 1)) .nil))) (.bcall .int (.cons (.cmp .eq (.var 6) (.txt [66])) .nil))) (.cons (.num 0) .nil)))))
  (.cons (.ife (.or_ (.cons (.cmp .ne (.idx (.var 1) (.num 0)) (.var 12)) (.cons (.cmp .ne (.idx (.var 1) (.neg (.num 1))) (.tup (.cons (.var 9) (.cons (.var 10) (.cons (.num 0) .nil))))) .nil))) (.cons (.ret (.bl false))
  .nil) .nil)
  (.cons (.ife (.not_ (.call 288 (.cons (.var 3) (.cons (.var 4) (.cons (.var 5) (.cons (.var 1) (.cons (.idx (.lst (.cons (.num 1) (.cons (.neg (.num 1)) .nil))) (.bcall .int (.cons (.cmp .eq (.var 6) (.txt [66])) .nil))) .nil))))))) (.cons (.ret (.bl false))
  .nil) .nil)
  (.cons (.ret (.not_ (.bcall .any (.cons (.comp (.cmp .in_ (.tup (.cons (.tup (.cons (.var 9) (.cons (.var 10) (.cons (.var 13) .nil)))) (.cons (.txt [99, 117, 116]) .nil))) (.var 4)) (.nm 13) (.rng (.cons (.num 1) (.cons (.bin .add (.var 11) (.num 1)) .nil))) .no [13]) .nil))))
  .nil))))))))⟩
/-- beside(plan, spot); slots 0:plan 1:spot 2:loop 3:place 4:spur 5:found -/
def f_beside : Fn := ⟨2, 6,
  (.cons (.asg (.tp (.cons (.nm 2) (.cons (.nm 3) (.cons (.nm 4) .nil)))) (.var 1))
  (.cons (.asg (.nm 5) (.lst .nil))
  (.cons (.ife (.cmp .eq (.var 4) (.num 0)) (.cons (.asg (.nm 5) (.lst (.cons (.tup (.cons (.tup (.cons (.var 2) (.cons (.bin .sub (.var 3) (.num 1)) (.cons (.num 0) .nil)))) (.cons (.tup (.cons (.var 2) (.cons (.bin .sub (.var 3) (.num 1)) (.cons (.num 0) .nil)))) .nil))) (.cons (.tup (.cons (.tup (.cons (.var 2) (.cons (.var 3) (.cons (.num 0) .nil)))) (.cons (.tup (.cons (.var 2) (.cons (.bin .add (.var 3) (.num 1)) (.cons (.num 0) .nil)))) .nil))) .nil))))
  .nil) (.cons (.asg (.nm 5) (.lst (.cons (.tup (.cons (.var 1) (.cons (.tup (.cons (.var 2) (.cons (.var 3) (.cons (.bin .sub (.var 4) (.num 1)) .nil)))) .nil))) .nil)))
  .nil))
  (.cons (.ife (.cmp .lt (.var 4) (.bcall .len (.cons (.idx (.idx (.idx (.idx (.var 0) (.num 1)) (.var 2)) (.bin .sub (.var 3) (.num 1))) (.num 2)) .nil))) (.cons (.ex (.bmeth .append (.var 5) (.cons (.tup (.cons (.tup (.cons (.var 2) (.cons (.var 3) (.cons (.bin .add (.var 4) (.num 1)) .nil)))) (.cons (.tup (.cons (.var 2) (.cons (.var 3) (.cons (.bin .add (.var 4) (.num 1)) .nil)))) .nil))) .nil)))
  .nil) .nil)
  (.cons (.ret (.var 5))
  .nil)))))⟩
/-- is_of_fence(plan, loop, thing); slots 0:plan 1:loop 2:thing 3:spot 4:kind 5:address -/
def f_is_of_fence : Fn := ⟨3, 6,
  (.cons (.ife (.or_ (.cons (.not_ (.call 27 (.cons (.var 2) (.cons (.num 3) (.cons (.num 0) (.cons (.glob 68 (D.int 99)) .nil)))))) (.cons (.cmp .ne (.idx (.var 2) (.num 0)) (.var 1)) .nil))) (.cons (.ret (.bl false))
  .nil) .nil)
  (.cons (.ife (.cmp .in_ (.var 2) (.comp (.var 3) (.tp (.cons (.nm 3) (.cons (.nm 4) (.cons (.nm 5) .nil)))) (.val (.call 45 (.cons (.var 0) .nil))) .no [3, 4, 5])) (.cons (.ret (.bl true))
  .nil) .nil)
  (.cons (.ret (.and_ (.cons (.cmp .eq (.idx (.var 2) (.num 2)) (.num 0)) (.cons (.cmp2 .le .le (.num 1) (.idx (.var 2) (.num 1)) (.bcall .len (.cons (.idx (.idx (.var 0) (.num 1)) (.var 1)) .nil))) (.cons (.cmp .eq (.idx (.idx (.idx (.idx (.var 0) (.num 1)) (.var 1)) (.bin .sub (.idx (.var 2) (.num 1)) (.num 1))) (.num 0)) (.glob 32 (D.str [111, 112, 101, 110, 101, 114]))) .nil)))))
  .nil)))⟩
/-- is_shut(plan, faults, parted, fence); slots 0:plan 1:faults 2:parted 3:fence 4:spot 5:stretch 6:other 7:ends_there -/
def f_is_shut : Fn := ⟨4, 8,
  (.cons (.fr (.nm 4) (.val (.var 3)) (.cons (.ife (.and_ (.cons (.cmp .eq (.idx (.var 4) (.num 2)) (.num 0)) (.cons (.cmp .in_ (.slc (.var 4) .no (.yes (.num 2))) (.var 2)) .nil))) (.cons (.ret (.bl false))
  .nil) .nil)
  (.cons (.fr (.tp (.cons (.nm 5) (.cons (.nm 6) .nil))) (.val (.call 290 (.cons (.var 0) (.cons (.var 4) .nil)))) (.cons (.asg (.nm 7) (.and_ (.cons (.cmp .eq (.idx (.var 6) (.num 2)) (.num 0)) (.cons (.cmp .in_ (.slc (.var 6) .no (.yes (.num 2))) (.var 2)) .nil))))
  (.cons (.ife (.and_ (.cons (.cmp .nin (.var 6) (.var 3)) (.cons (.cmp .nin (.tup (.cons (.var 5) (.cons (.txt [99, 117, 116]) .nil))) (.var 1)) (.cons (.not_ (.var 7)) .nil)))) (.cons (.ret (.bl false))
  .nil) .nil)
  .nil)))
  .nil)))
  (.cons (.ret (.bl true))
  .nil))⟩
/-- is_still(claim, fence); slots 0:claim 1:fence 2:word 3:plan 4:faults 5:parted 6:spot 7:one -/
def f_is_still : Fn := ⟨2, 8,
  (.cons (.asg (.tp (.cons (.nm 2) (.cons (.nm 3) (.cons (.nm 4) (.cons (.nm 5) (.cons (.nm 6) .nil)))))) (.var 0))
  (.cons (.ife (.or_ (.cons (.not_ (.call 286 (.cons (.var 3) (.cons (.var 4) (.cons (.var 5) .nil))))) (.cons (.not_ (.call 287 (.cons (.var 3) (.cons (.var 6) .nil)))) (.cons (.not_ (.isin (.var 1) [.tuple])) .nil)))) (.cons (.ret (.bl false))
  .nil) .nil)
  (.cons (.ife (.or_ (.cons (.not_ (.bcall .all (.cons (.comp (.call 291 (.cons (.var 3) (.cons (.idx (.var 6) (.num 0)) (.cons (.var 7) .nil)))) (.nm 7) (.val (.var 1)) .no [7]) .nil))) (.cons (.not_ (.call 25 (.cons (.var 1) .nil))) (.cons (.cmp .nin (.var 6) (.var 1)) .nil)))) (.cons (.ret (.bl false))
  .nil) .nil)
  (.cons (.ret (.call 292 (.cons (.var 3) (.cons (.var 4) (.cons (.var 5) (.cons (.var 1) .nil))))))
  .nil))))⟩
/-- are_spans(weights, most, many, spans); slots 0:weights 1:most 2:many 3:spans 4:one 5:k 6:first 7:last -/
def f_are_spans : Fn := ⟨4, 8,
  (.cons (.ife (.or_ (.cons (.not_ (.isin (.var 3) [.tuple])) (.cons (.cmp .ne (.bcall .len (.cons (.var 3) .nil)) (.var 2)) .nil))) (.cons (.ret (.bl false))
  .nil) .nil)
  (.cons (.ife (.not_ (.bcall .all (.cons (.comp (.and_ (.cons (.call 27 (.cons (.var 4) (.cons (.num 2) (.cons (.num 0) (.cons (.bin .sub (.bcall .len (.cons (.var 0) .nil)) (.num 1)) .nil))))) (.cons (.cmp .lt (.idx (.var 4) (.num 0)) (.idx (.var 4) (.num 1))) .nil))) (.nm 4) (.val (.var 3)) .no [4]) .nil))) (.cons (.ret (.bl false))
  .nil) .nil)
  (.cons (.ife (.not_ (.bcall .all (.cons (.comp (.cmp .le (.idx (.idx (.var 3) (.var 5)) (.num 1)) (.idx (.idx (.var 3) (.bin .add (.var 5) (.num 1))) (.num 0))) (.nm 5) (.rng (.cons (.bin .sub (.var 2) (.num 1)) .nil)) .no [5]) .nil))) (.cons (.ret (.bl false))
  .nil) .nil)
  (.cons (.ret (.bcall .all (.cons (.comp (.cmp .gt (.bcall .sum (.cons (.slc (.var 0) (.yes (.var 6)) (.yes (.bin .add (.var 7) (.num 1)))) .nil)) (.var 1)) (.tp (.cons (.nm 6) (.cons (.nm 7) .nil))) (.val (.var 3)) .no [6, 7]) .nil)))
  .nil))))⟩
/-- are_fewest(claim, spans); slots 0:claim 1:spans 2:word 3:weights 4:most 5:found 6:borders 7:k -/
def f_are_fewest : Fn := ⟨2, 8,
  (.cons (.asg (.tp (.cons (.nm 2) (.cons (.nm 3) (.cons (.nm 4) (.cons (.nm 5) .nil))))) (.var 0))
  (.cons (.ife (.or_ (.cons (.not_ (.isin (.var 3) [.tuple])) (.cons (.not_ (.cmp2 .le .le (.num 1) (.bcall .len (.cons (.var 3) .nil)) (.glob 277 (D.int 30)))) .nil))) (.cons (.ret (.bl false))
  .nil) .nil)
  (.cons (.ife (.or_ (.cons (.not_ (.call 27 (.cons (.var 3) (.cons (.bcall .len (.cons (.var 3) .nil)) (.cons (.num 0) (.cons (.glob 278 (D.int 9)) .nil)))))) (.cons (.not_ (.call 23 (.cons (.var 4) (.cons (.num 1) (.cons (.glob 68 (D.int 99)) .nil))))) .nil))) (.cons (.ret (.bl false))
  .nil) .nil)
  (.cons (.ife (.not_ (.call 26 (.cons (.var 5) (.cons (.glob 277 (D.int 30)) (.cons (.num 1) (.cons (.bin .sub (.bcall .len (.cons (.var 3) .nil)) (.num 1)) .nil)))))) (.cons (.ret (.bl false))
  .nil) .nil)
  (.cons (.asg (.nm 6) (.bin .add (.bin .add (.tup (.cons (.num 0) .nil)) (.var 5)) (.tup (.cons (.bcall .len (.cons (.var 3) .nil)) .nil))))
  (.cons (.ife (.bcall .any (.cons (.comp (.cmp .gt (.bcall .sum (.cons (.slc (.var 3) (.yes (.idx (.var 6) (.var 7))) (.yes (.idx (.var 6) (.bin .add (.var 7) (.num 1))))) .nil)) (.var 4)) (.nm 7) (.rng (.cons (.bin .sub (.bcall .len (.cons (.var 6) .nil)) (.num 1)) .nil)) .no [7]) .nil)) (.cons (.ret (.bl false))
  .nil) .nil)
  (.cons (.ret (.call 294 (.cons (.var 3) (.cons (.var 4) (.cons (.bcall .len (.cons (.var 5) .nil)) (.cons (.var 1) .nil))))))
  .nil)))))))⟩
/-- is_entry(thing); slots 0:thing -/
def f_is_entry : Fn := ⟨1, 1,
  (.cons (.ife (.or_ (.cons (.not_ (.isin (.var 0) [.tuple])) (.cons (.cmp .ne (.bcall .len (.cons (.var 0) .nil)) (.num 4)) (.cons (.not_ (.call 23 (.cons (.idx (.var 0) (.num 1)) (.cons (.num 0) (.cons (.num 3) .nil))))) .nil)))) (.cons (.ret (.bl false))
  .nil) .nil)
  (.cons (.ife (.or_ (.cons (.not_ (.call 23 (.cons (.idx (.var 0) (.num 0)) (.cons (.num 0) (.cons (.glob 279 (D.int 999)) .nil))))) (.cons (.not_ (.call 23 (.cons (.idx (.var 0) (.num 2)) (.cons (.num 0) (.cons (.glob 279 (D.int 999)) .nil))))) .nil))) (.cons (.ret (.bl false))
  .nil) .nil)
  (.cons (.ret (.call 28 (.cons (.idx (.var 0) (.num 3)) (.cons (.num 1) (.cons (.glob 280 (D.int 20)) .nil)))))
  .nil)))⟩
/-- is_log(thing); slots 0:thing 1:one -/
def f_is_log : Fn := ⟨1, 2,
  (.cons (.ret (.and_ (.cons (.isin (.var 0) [.list]) (.cons (.bcall .all (.cons (.comp (.call 296 (.cons (.var 1) .nil)) (.nm 1) (.val (.var 0)) .no [1]) .nil)) (.cons (.call 25 (.cons (.var 0) .nil)) .nil)))))
  .nil)⟩
/-- are_joined(one, other, log); slots 0:one 1:other 2:log 3:entry -/
def f_are_joined : Fn := ⟨3, 4,
  (.cons (.ife (.or_ (.cons (.not_ (.call 297 (.cons (.var 0) .nil))) (.cons (.not_ (.call 297 (.cons (.var 1) .nil))) (.cons (.not_ (.call 297 (.cons (.var 2) .nil))) .nil)))) (.cons (.ret (.bl false))
  .nil) .nil)
  (.cons (.ife (.cmp .ne (.fus .lenT (.cons (.comp (.slc (.var 3) (.yes (.num 1)) (.yes (.num 3))) (.nm 3) (.val (.var 2)) .no [3]) .nil)) (.bcall .len (.cons (.var 2) .nil))) (.cons (.ret (.bl false))
  .nil) .nil)
  (.cons (.ife (.or_ (.cons (.not_ (.bcall .all (.cons (.comp (.cmp .in_ (.var 3) (.var 2)) (.nm 3) (.val (.var 0)) .no [3]) .nil))) (.cons (.not_ (.bcall .all (.cons (.comp (.cmp .in_ (.var 3) (.var 2)) (.nm 3) (.val (.var 1)) .no [3]) .nil))) .nil))) (.cons (.ret (.bl false))
  .nil) .nil)
  (.cons (.ret (.bcall .all (.cons (.comp (.or_ (.cons (.cmp .in_ (.var 3) (.var 0)) (.cons (.cmp .in_ (.var 3) (.var 1)) .nil))) (.nm 3) (.val (.var 2)) .no [3]) .nil)))
  .nil))))⟩
/-- are_said(table, history, addresses); slots 0:table 1:history 2:addresses 3:runner 4:told 5:warned 6:turned 7:hour -/
def f_are_said : Fn := ⟨3, 8,
  (.cons (.ife (.or_ (.cons (.not_ (.call 171 (.cons (.var 0) .nil))) (.cons (.not_ (.call 147 (.cons (.var 1) .nil))) (.cons (.not_ (.call 26 (.cons (.var 2) (.cons (.glob 68 (D.int 99)) (.cons (.num 1) (.cons (.glob 68 (D.int 99)) .nil)))))) .nil)))) (.cons (.ret (.bl false))
  .nil) .nil)
  (.cons (.asg (.nm 3) (.make 180 (.cons (.var 0) .nil)))
  (.cons (.asg (.nm 4) (.tup .nil))
  (.cons (.fr (.tp (.cons (.nm 5) (.cons (.nm 6) (.cons (.nm 7) .nil)))) (.val (.var 1)) (.cons (.asg (.nm 4) (.meth 100 (.var 3) (.cons (.var 5) (.cons (.var 6) (.cons (.var 7) .nil)))))
  .nil))
  (.cons (.ret (.cmp .eq (.var 4) (.var 2)))
  .nil)))))⟩
/-- holds(claim, paper); slots 0:claim 1:paper 2:form -/
def f_holds : Fn := ⟨2, 3,
  (.cons (.ife (.or_ (.cons (.not_ (.isin (.var 0) [.tuple])) (.cons (.cmp .eq (.bcall .len (.cons (.var 0) .nil)) (.num 0)) (.cons (.not_ (.isin (.idx (.var 0) (.num 0)) [.str])) .nil)))) (.cons (.ret (.bl false))
  .nil) .nil)
  (.cons (.asg (.nm 2) (.tup (.cons (.idx (.var 0) (.num 0)) (.cons (.bcall .len (.cons (.var 0) .nil)) .nil))))
  (.cons (.ife (.cmp .eq (.var 2) (.tup (.cons (.txt [114, 101, 115, 116]) (.cons (.num 4) .nil)))) (.cons (.ret (.and_ (.cons (.cmp .is_ (.var 1) .non) (.cons (.call 286 (.cons (.idx (.var 0) (.num 1)) (.cons (.idx (.var 0) (.num 2)) (.cons (.idx (.var 0) (.num 3)) .nil)))) .nil))))
  .nil) .nil)
  (.cons (.ife (.cmp .eq (.var 2) (.tup (.cons (.txt [104, 101, 97, 114, 100]) (.cons (.num 6) .nil)))) (.cons (.ret (.call 289 (.cons (.var 0) (.cons (.var 1) .nil))))
  .nil) .nil)
  (.cons (.ife (.cmp .eq (.var 2) (.tup (.cons (.txt [115, 116, 105, 108, 108]) (.cons (.num 5) .nil)))) (.cons (.ret (.call 293 (.cons (.var 0) (.cons (.var 1) .nil))))
  .nil) .nil)
  (.cons (.ife (.cmp .eq (.var 2) (.tup (.cons (.txt [102, 101, 119, 101, 115, 116]) (.cons (.num 4) .nil)))) (.cons (.ret (.call 295 (.cons (.var 0) (.cons (.var 1) .nil))))
  .nil) .nil)
  (.cons (.ife (.cmp .eq (.var 2) (.tup (.cons (.txt [106, 111, 105, 110, 101, 100]) (.cons (.num 4) .nil)))) (.cons (.ret (.and_ (.cons (.cmp .is_ (.var 1) .non) (.cons (.call 298 (.cons (.idx (.var 0) (.num 1)) (.cons (.idx (.var 0) (.num 2)) (.cons (.idx (.var 0) (.num 3)) .nil)))) .nil))))
  .nil) .nil)
  (.cons (.ret (.and_ (.cons (.cmp .eq (.var 2) (.tup (.cons (.txt [115, 97, 121, 115]) (.cons (.num 4) .nil)))) (.cons (.cmp .is_ (.var 1) .non) (.cons (.call 299 (.cons (.idx (.var 0) (.num 1)) (.cons (.idx (.var 0) (.num 2)) (.cons (.idx (.var 0) (.num 3)) .nil)))) .nil)))))
  .nil))))))))⟩
/-- _law_bag(_law_script, _law_k); slots 0:_law_script 1:_law_k 2:_law_cell -/
def f_law_bag : Fn := ⟨2, 3,
  (.cons (.asg (.nm 2) (.bin .add (.bin .add (.bin .mul (.bin .mul (.num 9973) (.var 1)) (.var 1)) (.bin .mul (.num 101) (.var 1))) (.num 17)))
  (.cons (.ife (.cmp .lt (.var 1) (.bcall .len (.cons (.var 0) .nil))) (.cons (.asg (.nm 2) (.idx (.var 0) (.var 1)))
  .nil) .nil)
  (.cons (.ret (.lst (.cons (.bin .mul (.bcall .abs (.cons (.var 2) .nil)) (.bcall .int (.cons (.cmp .ge (.bcall .abs (.cons (.var 2) .nil)) (.bin .pow (.num 10) (.num 18))) .nil))) (.cons (.bin .add (.bin .mod (.var 2) (.num 2147483647)) (.bin .mul (.num 37) (.var 1))) (.cons (.num 0) .nil)))))
  .nil)))⟩
/-- _law_take(_law_bag_here, _law_many); slots 0:_law_bag_here 1:_law_many 2:_law_digit 3:_law_primes 4:_law_step 5:_law_base 6:_law_found -/
def f_law_take : Fn := ⟨2, 7,
  (.cons (.ife (.cmp .gt (.idx (.var 0) (.num 0)) (.num 0)) (.cons (.asg (.nm 2) (.bin .mod (.idx (.var 0) (.num 0)) (.var 1)))
  (.cons (.asg (.sb (.var 0) (.num 0)) (.bin .fdiv (.idx (.var 0) (.num 0)) (.var 1)))
  (.cons (.ret (.var 2))
  .nil))) .nil)
  (.cons (.asg (.nm 3) (.tup (.cons (.num 2147483629) (.cons (.num 2147483587) (.cons (.num 2147483579) (.cons (.num 2147483563) (.cons (.num 2147483549) (.cons (.num 2147483543) (.cons (.num 2147483497) .nil)))))))))
  (.cons (.asg (.sb (.var 0) (.num 2)) (.bin .add (.idx (.var 0) (.num 2)) (.num 1)))
  (.cons (.asg (.nm 4) (.idx (.var 0) (.num 2)))
  (.cons (.asg (.nm 5) (.bin .add (.bin .add (.bin .mul (.idx (.var 0) (.num 1)) (.bin .add (.bin .mul (.num 2) (.var 4)) (.num 1))) (.bin .mul (.bin .mul (.num 6007) (.var 4)) (.var 4))) (.num 29)))
  (.cons (.asg (.nm 6) (.bin .mod (.bin .pow (.var 5) (.num 3)) (.idx (.var 3) (.bin .mod (.var 4) (.num 7)))))
  (.cons (.ret (.bin .mod (.bin .fdiv (.bin .mod (.bin .mul (.var 6) (.bin .add (.bin .fdiv (.var 6) (.num 4096)) (.num 11))) (.idx (.var 3) (.bin .mod (.bin .add (.var 4) (.num 3)) (.num 7)))) (.num 16)) (.var 1)))
  .nil)))))))⟩
/-- _law_entry(_law_bag_here, _law_number); slots 0:_law_bag_here 1:_law_number 2:_law_text 3:_law_at -/
def f_law_entry : Fn := ⟨2, 4,
  (.cons (.asg (.nm 2) (.bmeth .join (.txt []) (.cons (.comp (.idx (.txt [32, 33, 97, 126, 122, 81, 48, 57, 45, 47]) (.call 3 (.cons (.var 0) (.cons (.num 10) .nil)))) (.nm 3) (.rng (.cons (.bin .add (.num 1) (.call 3 (.cons (.var 0) (.cons (.idx (.lst (.cons (.num 3) (.cons (.num 20) .nil))) (.bin .mod (.var 1) (.num 2))) .nil)))) .nil)) .no [3]) .nil)))
  (.cons (.ret (.tup (.cons (.call 3 (.cons (.var 0) (.cons (.idx (.lst (.cons (.num 4) (.cons (.num 1000) .nil))) (.bcall .int (.cons (.cmp .eq (.call 3 (.cons (.var 0) (.cons (.num 4) .nil))) (.num 0)) .nil))) .nil))) (.cons (.call 3 (.cons (.var 0) (.cons (.num 4) .nil))) (.cons (.var 1) (.cons (.var 2) .nil))))))
  .nil))⟩
/-- _law_odd(_law_bag_here, _law_log); slots 0:_law_bag_here 1:_law_log 2:_law_way 3:_law_at 4:_law_stamp 5:_law_panel 6:_law_number 7:_law_text 8:_law_odd_here -/
def f_law_odd : Fn := ⟨2, 9,
  (.cons (.asg (.nm 2) (.call 3 (.cons (.var 0) (.cons (.num 9) .nil))))
  (.cons (.ife (.cmp .eq (.bcall .len (.cons (.var 1) .nil)) (.num 0)) (.cons (.ret (.idx (.lst (.cons (.lst (.cons (.tup (.cons (.num 0) (.cons (.num 0) (.cons (.num 0) (.cons (.txt [97]) .nil))))) .nil)) (.cons (.tup .nil) (.cons .non (.cons (.lst (.cons (.tup .nil) .nil)) (.cons (.lst (.cons (.tup (.cons (.num 0) (.cons (.num 0) (.cons (.num 0) .nil)))) .nil)) (.cons (.lst (.cons .non .nil)) (.cons (.lst (.cons (.tup (.cons (.num 0) (.cons (.num 0) (.cons (.num 0) (.cons (.txt []) .nil))))) .nil)) (.cons (.lst (.cons (.tup (.cons (.num 0) (.cons (.num 4) (.cons (.num 0) (.cons (.txt [97]) .nil))))) .nil)) (.cons (.lst (.cons (.txt [97]) .nil)) .nil)))))))))) (.var 2)))
  .nil) .nil)
  (.cons (.asg (.nm 3) (.call 3 (.cons (.var 0) (.cons (.bcall .len (.cons (.var 1) .nil)) .nil))))
  (.cons (.asg (.tp (.cons (.nm 4) (.cons (.nm 5) (.cons (.nm 6) (.cons (.nm 7) .nil))))) (.idx (.var 1) (.var 3)))
  (.cons (.asg (.nm 8) (.lst (.cons (.bin .add (.slc (.var 1) .no (.yes (.var 3))) (.slc (.var 1) (.yes (.bin .add (.var 3) (.num 1))) .no)) (.cons (.bin .add (.bin .add (.slc (.var 1) .no (.yes (.var 3))) (.lst (.cons (.idx (.var 1) (.var 3)) .nil))) (.slc (.var 1) (.yes (.var 3)) .no)) (.cons (.rev (.var 1)) (.cons (.bcall .tuple (.cons (.var 1) .nil)) (.cons (.bin .add (.bin .add (.slc (.var 1) .no (.yes (.var 3))) (.lst (.cons (.tup (.cons (.var 4) (.cons (.var 5) (.cons (.var 6) (.cons (.bin .add (.var 7) (.txt [98])) .nil))))) .nil))) (.slc (.var 1) (.yes (.bin .add (.var 3) (.num 1))) .no)) (.cons (.bcall .sorted (.cons (.bin .add (.var 1) (.lst (.cons (.tup (.cons (.bin .add (.var 4) (.num 1)) (.cons (.var 5) (.cons (.var 6) (.cons (.var 7) .nil))))) .nil))) .nil)) (.cons (.bcall .sorted (.cons (.bin .add (.var 1) (.lst (.cons (.tup (.cons (.num 0) (.cons (.num 3) (.cons (.num 998) (.cons (.txt [110, 101, 119]) .nil))))) .nil))) .nil)) (.cons (.bin .add (.bin .add (.slc (.var 1) .no (.yes (.var 3))) (.lst (.cons (.tup (.cons (.var 4) (.cons (.var 5) (.cons (.var 6) (.cons (.bin .mul (.slc (.var 7) .no (.yes (.num 1))) (.num 21)) .nil))))) .nil))) (.slc (.var 1) (.yes (.bin .add (.var 3) (.num 1))) .no)) (.cons (.bin .add (.bin .add (.slc (.var 1) .no (.yes (.var 3))) (.lst (.cons (.lst (.cons (.var 4) (.cons (.var 5) (.cons (.var 6) (.cons (.var 7) .nil))))) .nil))) (.slc (.var 1) (.yes (.bin .add (.var 3) (.num 1))) .no)) .nil)))))))))))
  (.cons (.ret (.idx (.var 8) (.var 2)))
  .nil))))))⟩
/-- _law_is_log(_law_thing); slots 0:_law_thing 1:_law_one 2:_law_part 3:_law_k -/
def f_law_is_log : Fn := ⟨1, 4,
  (.cons (.ife (.not_ (.isin (.var 0) [.list])) (.cons (.ret (.bl false))
  .nil) .nil)
  (.cons (.fr (.nm 1) (.val (.var 0)) (.cons (.ife (.or_ (.cons (.not_ (.isin (.var 1) [.tuple])) (.cons (.cmp .ne (.bcall .len (.cons (.var 1) .nil)) (.num 4)) (.cons (.not_ (.isin (.idx (.var 1) (.num 3)) [.str])) (.cons (.not_ (.cmp2 .le .le (.num 1) (.bcall .len (.cons (.idx (.var 1) (.num 3)) .nil)) (.num 20))) .nil))))) (.cons (.ret (.bl false))
  .nil) .nil)
  (.cons (.ife (.not_ (.bcall .all (.cons (.comp (.and_ (.cons (.isin (.var 2) [.int]) (.cons (.not_ (.isin (.var 2) [.bool])) (.cons (.cmp2 .le .le (.num 0) (.var 2) (.num 999)) .nil)))) (.nm 2) (.val (.slc (.var 1) .no (.yes (.num 3)))) .no [2]) .nil))) (.cons (.ret (.bl false))
  .nil) .nil)
  (.cons (.ife (.cmp .gt (.idx (.var 1) (.num 1)) (.num 3)) (.cons (.ret (.bl false))
  .nil) .nil)
  .nil))))
  (.cons (.ret (.bcall .all (.cons (.comp (.cmp .lt (.idx (.var 0) (.var 3)) (.idx (.var 0) (.bin .add (.var 3) (.num 1)))) (.nm 3) (.rng (.cons (.bin .sub (.bcall .len (.cons (.var 0) .nil)) (.num 1)) .nil)) .no [3]) .nil)))
  .nil)))⟩
/-- _law_copy(_law_thing); slots 0:_law_thing -/
def f_law_copy : Fn := ⟨1, 1,
  (.cons (.ret (.ifx (.isin (.var 0) [.list]) (.bcall .list (.cons (.var 0) .nil)) (.var 0)))
  .nil)⟩
/-- _law_due(_law_one, _law_other, _law_log); slots 0:_law_one 1:_law_other 2:_law_log 3:_law_k 4:_law_entry_here -/
def f_law_due : Fn := ⟨3, 5,
  (.cons (.ife (.or_ (.cons (.not_ (.call 358 (.cons (.var 0) .nil))) (.cons (.not_ (.call 358 (.cons (.var 1) .nil))) (.cons (.not_ (.call 358 (.cons (.var 2) .nil))) .nil)))) (.cons (.ret (.bl false))
  .nil) .nil)
  (.cons (.fr (.nm 3) (.rng (.cons (.bcall .len (.cons (.var 2) .nil)) .nil)) (.cons (.ife (.cmp .in_ (.slc (.idx (.var 2) (.var 3)) (.yes (.num 1)) (.yes (.num 3))) (.comp (.slc (.var 4) (.yes (.num 1)) (.yes (.num 3))) (.nm 4) (.val (.slc (.var 2) .no (.yes (.var 3)))) .no [4])) (.cons (.ret (.bl false))
  .nil) .nil)
  .nil))
  (.cons (.ret (.cmp .eq (.fus .sortN (.cons (.bin .add (.var 0) (.var 1)) .nil)) (.var 2)))
  .nil)))⟩
/-- law(_law_script); slots 0:_law_script 1:_law_k 2:_law_bag_here 3:_law_entries 4:_law_number 5:_law_one 6:_law_entry_here 7:_law_other 8:_law_log 9:_law_some 10:_law_due_here 11:_law_handed 12:_law_told -/
def f_law : Fn := ⟨1, 13,
  (.cons (.fr (.nm 1) (.rng (.cons (.bcall .max (.cons (.num 1) (.cons (.bcall .min (.cons (.num 8) (.cons (.bcall .len (.cons (.var 0) .nil)) .nil))) .nil))) .nil)) (.cons (.asg (.nm 2) (.call 2 (.cons (.var 0) (.cons (.var 1) .nil))))
  (.cons (.asg (.nm 3) (.comp (.call 359 (.cons (.var 2) (.cons (.var 4) .nil))) (.nm 4) (.rng (.cons (.call 3 (.cons (.var 2) (.cons (.num 13) .nil))) .nil)) .no [4]))
  (.cons (.asg (.nm 5) (.bcall .sorted (.cons (.comp (.var 6) (.nm 6) (.val (.var 3)) (.yes (.cmp .eq (.call 3 (.cons (.var 2) (.cons (.num 2) .nil))) (.num 0))) [6]) .nil)))
  (.cons (.asg (.nm 7) (.bcall .sorted (.cons (.comp (.var 6) (.nm 6) (.val (.var 3)) (.yes (.or_ (.cons (.cmp .nin (.var 6) (.var 5)) (.cons (.cmp .eq (.call 3 (.cons (.var 2) (.cons (.num 3) .nil))) (.num 0)) .nil)))) [6]) .nil)))
  (.cons (.ife (.cmp .eq (.call 3 (.cons (.var 2) (.cons (.num 4) .nil))) (.num 0)) (.cons (.asg (.nm 7) (.call 360 (.cons (.var 2) (.cons (.var 7) .nil))))
  .nil) .nil)
  (.cons (.asg (.nm 8) (.bcall .sorted (.cons (.var 3) .nil)))
  (.cons (.fr (.nm 9) (.val (.lst (.cons (.var 8) (.cons (.call 360 (.cons (.var 2) (.cons (.var 8) .nil))) (.cons (.call 360 (.cons (.var 2) (.cons (.var 8) .nil))) (.cons (.var 8) .nil)))))) (.cons (.asg (.nm 10) (.call 361 (.cons (.var 5) (.cons (.var 7) (.cons (.var 9) .nil)))))
  (.cons (.asg (.nm 11) (.lst (.cons (.call 362 (.cons (.var 5) .nil)) (.cons (.call 362 (.cons (.var 7) .nil)) (.cons (.call 362 (.cons (.var 9) .nil)) .nil)))))
  (.cons (.asg (.nm 12) (.call 161 (.cons (.tup (.cons (.txt [106, 111, 105, 110, 101, 100]) (.cons (.idx (.var 11) (.num 0)) (.cons (.idx (.var 11) (.num 1)) (.cons (.idx (.var 11) (.num 2)) .nil))))) (.cons .non .nil))))
  (.cons (.ife (.or_ (.cons (.not_ (.isin (.var 12) [.bool])) (.cons (.cmp .ne (.var 12) (.var 10)) (.cons (.cmp .ne (.var 11) (.lst (.cons (.var 5) (.cons (.var 7) (.cons (.var 9) .nil))))) .nil)))) (.cons (.ret (.bl false))
  .nil) .nil)
  .nil)))))
  (.cons (.ife (.or_ (.cons (.cmp .ne (.call 161 (.cons (.tup (.cons (.txt [106, 111, 105, 110, 101, 100]) (.cons (.var 5) (.cons (.var 5) (.cons (.var 5) .nil))))) (.cons (.tup .nil) .nil))) (.bl false)) (.cons (.cmp .ne (.call 161 (.cons (.tup (.cons (.txt [106, 111, 105, 110, 101, 100]) (.cons (.var 5) (.cons (.var 5) .nil)))) (.cons .non .nil))) (.bl false)) .nil))) (.cons (.ret (.bl false))
  .nil) .nil)
  (.cons (.ife (.cmp .ne (.call 161 (.cons (.tup (.cons (.txt [106, 111, 105, 110, 101, 100]) (.cons (.var 5) (.cons (.var 5) (.cons (.var 5) .nil))))) (.cons .non .nil))) (.bl true)) (.cons (.ret (.bl false))
  .nil) .nil)
  .nil))))))))))
  (.cons (.ret (.bl true))
  .nil))⟩
def top (i : Nat) : Stmt := (PySem.Challenge.pw_warnloop_k55_joined_claims).main.body.getD i (.Pass ⟨0, 0, 0, 0⟩)
def e_is_whole : Dd := ⟨0, 23, f_is_whole, ["thing", "least", "most"], ⟨("is_whole", none), "is_whole", "is_whole", defArgs (top 3), defBody (top 3), defScope (top 3), [], []⟩⟩
def e_is_name : Dd := ⟨0, 24, f_is_name, ["thing", "sign"], ⟨("is_name", none), "is_name", "is_name", defArgs (top 4), defBody (top 4), defScope (top 4), [], []⟩⟩
def e_rises : Dd := ⟨0, 25, f_rises, ["things", "k"], ⟨("rises", none), "rises", "rises", defArgs (top 5), defBody (top 5), defScope (top 5), [], []⟩⟩
def e_are_rising : Dd := ⟨0, 26, f_are_rising, ["thing", "many", "least", "most", "one"], ⟨("are_rising", none), "are_rising", "are_rising", defArgs (top 6), defBody (top 6), defScope (top 6), [], []⟩⟩
def e_are_whole : Dd := ⟨0, 27, f_are_whole, ["thing", "many", "least", "most", "one"], ⟨("are_whole", none), "are_whole", "are_whole", defArgs (top 7), defBody (top 7), defScope (top 7), [], []⟩⟩
def e_is_written : Dd := ⟨0, 28, f_is_written, ["thing", "fewest", "most", "sign"], ⟨("is_written", none), "is_written", "is_written", defArgs (top 8), defBody (top 8), defScope (top 8), [], []⟩⟩
def e_is_device : Dd := ⟨0, 39, f_is_device, ["thing"], ⟨("is_device", none), "is_device", "is_device", defArgs (top 19), defBody (top 19), defScope (top 19), [], []⟩⟩
def e_is_place : Dd := ⟨0, 40, f_is_place, ["thing", "kind", "address", "spur", "one"], ⟨("is_place", none), "is_place", "is_place", defArgs (top 20), defBody (top 20), defScope (top 20), [], []⟩⟩
def e_is_loop : Dd := ⟨0, 41, f_is_loop, ["thing", "one"], ⟨("is_loop", none), "is_loop", "is_loop", defArgs (top 21), defBody (top 21), defScope (top 21), [], []⟩⟩
def e_is_zone : Dd := ⟨0, 42, f_is_zone, ["thing"], ⟨("is_zone", none), "is_zone", "is_zone", defArgs (top 22), defBody (top 22), defScope (top 22), [], []⟩⟩
def e_are_zones : Dd := ⟨0, 43, f_are_zones, ["thing", "one", "zone"], ⟨("are_zones", none), "are_zones", "are_zones", defArgs (top 23), defBody (top 23), defScope (top 23), [], []⟩⟩
def e_is_plan : Dd := ⟨0, 44, f_is_plan, ["thing", "loops", "one"], ⟨("is_plan", none), "is_plan", "is_plan", defArgs (top 24), defBody (top 24), defScope (top 24), [], []⟩⟩
def e_devices : Dd := ⟨0, 45, f_devices, ["plan", "found", "loop", "places", "at", "kind", "address", "spur", "way", "other", "number"], ⟨("devices", none), "devices", "devices", defArgs (top 25), defBody (top 25), defScope (top 25), [], []⟩⟩
def e_stretches : Dd := ⟨0, 46, f_stretches, ["plan", "found", "loop", "places", "at", "place", "way"], ⟨("stretches", none), "stretches", "stretches", defArgs (top 26), defBody (top 26), defScope (top 26), [], []⟩⟩
def e_openers : Dd := ⟨0, 47, f_openers, ["plan", "found", "loop", "places", "at", "place"], ⟨("openers", none), "openers", "openers", defArgs (top 27), defBody (top 27), defScope (top 27), [], []⟩⟩
def e_parts : Dd := ⟨0, 48, f_parts, ["plan", "loop", "found", "at", "kind", "address", "spur", "way"], ⟨("parts", none), "parts", "parts", defArgs (top 28), defBody (top 28), defScope (top 28), [], []⟩⟩
def e_told_twice : Dd := ⟨0, 49, f_told_twice, ["plan", "met", "spot", "kind", "address"], ⟨("told_twice", none), "told_twice", "told_twice", defArgs (top 29), defBody (top 29), defScope (top 29), [], []⟩⟩
def e_crowded : Dd := ⟨0, 50, f_crowded, ["plan", "loop", "number", "part"], ⟨("crowded", none), "crowded", "crowded", defArgs (top 30), defBody (top 30), defScope (top 30), [], []⟩⟩
def e_zone_at_odds : Dd := ⟨0, 51, f_zone_at_odds, ["plan", "known", "spot", "kind", "address", "shared", "met", "name", "addresses"], ⟨("zone_at_odds", none), "zone_at_odds", "zone_at_odds", defArgs (top 31), defBody (top 31), defScope (top 31), [], []⟩⟩
def e_wrong : Dd := ⟨0, 52, f_wrong, ["plan", "found"], ⟨("wrong", none), "wrong", "wrong", defArgs (top 32), defBody (top 32), defScope (top 32), [], []⟩⟩
def e_is_let_by : Dd := ⟨0, 53, f_is_let_by, ["thing"], ⟨("is_let_by", none), "is_let_by", "is_let_by", defArgs (top 33), defBody (top 33), defScope (top 33), [], []⟩⟩
def e_spur_come_to : Dd := ⟨0, 62, f_spur_come_to, ["plan", "hows", "loop", "at", "passed", "spots", "way"], ⟨("spur_come_to", none), "spur_come_to", "spur_come_to", defArgs (top 35), defBody (top 35), defScope (top 35), [], []⟩⟩
def e_come_to : Dd := ⟨0, 63, f_come_to, ["plan", "hows", "stops", "loop", "place", "step", "many", "passed", "spots", "at", "more", "others"], ⟨("come_to", none), "come_to", "come_to", defArgs (top 36), defBody (top 36), defScope (top 36), [], []⟩⟩
def e_steps_of : Dd := ⟨0, 64, f_steps_of, ["plan", "opener", "loop", "place"], ⟨("steps_of", none), "steps_of", "steps_of", defArgs (top 37), defBody (top 37), defScope (top 37), [], []⟩⟩
def e_feels : Dd := ⟨0, 65, f_feels, ["plan", "hows", "stops", "opener", "step", "passed", "spots", "stretch"], ⟨("feels", none), "feels", "feels", defArgs (top 38), defBody (top 38), defScope (top 38), [], []⟩⟩
def e_all_rest : Dd := ⟨0, 66, f_all_rest, ["plan", "hows", "stops", "opener"], ⟨("all_rest", none), "all_rest", "all_rest", defArgs (top 39), defBody (top 39), defScope (top 39), [], []⟩⟩
def e_is_brought : Dd := ⟨0, 146, f_is_brought, ["thing"], ⟨("is_brought", none), "is_brought", "is_brought", defArgs (top 49), defBody (top 49), defScope (top 49), [], []⟩⟩
def e_is_history : Dd := ⟨0, 147, f_is_history, ["thing", "one"], ⟨("is_history", none), "is_history", "is_history", defArgs (top 50), defBody (top 50), defScope (top 50), [], []⟩⟩
def e_in_hours : Dd := ⟨0, 159, f_in_hours, ["first", "last", "hour"], ⟨("in_hours", none), "in_hours", "in_hours", defArgs (top 51), defBody (top 51), defScope (top 51), [], []⟩⟩
def e_is_row : Dd := ⟨0, 169, f_is_row, ["thing", "at", "word", "size"], ⟨("is_row", none), "is_row", "is_row", defArgs (top 54), defBody (top 54), defScope (top 54), [], []⟩⟩
def e_is_out : Dd := ⟨0, 170, f_is_out, ["thing", "many"], ⟨("is_out", none), "is_out", "is_out", defArgs (top 55), defBody (top 55), defScope (top 55), [], []⟩⟩
def e_is_table : Dd := ⟨0, 171, f_is_table, ["thing", "rows", "outs", "at", "row", "out"], ⟨("is_table", none), "is_table", "is_table", defArgs (top 56), defBody (top 56), defScope (top 56), [], []⟩⟩
def e_Runner___init__ : Dd := ⟨180, 1, f_Runner___init__, ["self", "table"], ⟨("Runner", some "__init__"), "__init__", "Runner.__init__", defArgs (L2.inClass (top 57) 0), defBody (L2.inClass (top 57) 0), defScope (L2.inClass (top 57) 0), [], []⟩⟩
def e_Runner_beat : Dd := ⟨180, 100, f_Runner_beat, ["self", "warned", "turned", "hour", "now", "row", "address", "number"], ⟨("Runner", some "beat"), "beat", "Runner.beat", defArgs (L2.inClass (top 57) 1), defBody (L2.inClass (top 57) 1), defScope (L2.inClass (top 57) 1), [], []⟩⟩
def e_Runner_holds_now : Dd := ⟨180, 181, f_Runner_holds_now, ["self", "row", "now", "brought", "word", "warned", "turned", "hour", "one", "held"], ⟨("Runner", some "holds_now"), "holds_now", "Runner.holds_now", defArgs (L2.inClass (top 57) 2), defBody (L2.inClass (top 57) 2), defScope (L2.inClass (top 57) 2), [], []⟩⟩
def e_is_text_of : Dd := ⟨0, 281, f_is_text_of, ["thing", "some"], ⟨("is_text_of", none), "is_text_of", "is_text_of", defArgs (top 66), defBody (top 66), defScope (top 66), [], []⟩⟩
def e_is_fault : Dd := ⟨0, 282, f_is_fault, ["plan", "thing"], ⟨("is_fault", none), "is_fault", "is_fault", defArgs (top 67), defBody (top 67), defScope (top 67), [], []⟩⟩
def e_are_faults : Dd := ⟨0, 283, f_are_faults, ["plan", "thing", "one"], ⟨("are_faults", none), "are_faults", "are_faults", defArgs (top 68), defBody (top 68), defScope (top 68), [], []⟩⟩
def e_is_opener : Dd := ⟨0, 284, f_is_opener, ["plan", "thing"], ⟨("is_opener", none), "is_opener", "is_opener", defArgs (top 69), defBody (top 69), defScope (top 69), [], []⟩⟩
def e_are_openers : Dd := ⟨0, 285, f_are_openers, ["plan", "thing", "one"], ⟨("are_openers", none), "are_openers", "are_openers", defArgs (top 70), defBody (top 70), defScope (top 70), [], []⟩⟩
def e_all_so : Dd := ⟨0, 286, f_all_so, ["plan", "faults", "parted", "one"], ⟨("all_so", none), "all_so", "all_so", defArgs (top 71), defBody (top 71), defScope (top 71), [], []⟩⟩
def e_is_spot : Dd := ⟨0, 287, f_is_spot, ["plan", "thing", "spot", "kind", "address"], ⟨("is_spot", none), "is_spot", "is_spot", defArgs (top 72), defBody (top 72), defScope (top 72), [], []⟩⟩
def e_goes_on : Dd := ⟨0, 288, f_goes_on, ["plan", "faults", "parted", "way", "step", "cut", "stretch", "how", "here", "there"], ⟨("goes_on", none), "goes_on", "goes_on", defArgs (top 73), defBody (top 73), defScope (top 73), [], []⟩⟩
def e_is_heard : Dd := ⟨0, 289, f_is_heard, ["claim", "way", "word", "plan", "faults", "parted", "end", "spot", "one", "loop", "place", "spur", "first", "at"], ⟨("is_heard", none), "is_heard", "is_heard", defArgs (top 74), defBody (top 74), defScope (top 74), [], []⟩⟩
def e_beside : Dd := ⟨0, 290, f_beside, ["plan", "spot", "loop", "place", "spur", "found"], ⟨("beside", none), "beside", "beside", defArgs (top 75), defBody (top 75), defScope (top 75), [], []⟩⟩
def e_is_of_fence : Dd := ⟨0, 291, f_is_of_fence, ["plan", "loop", "thing", "spot", "kind", "address"], ⟨("is_of_fence", none), "is_of_fence", "is_of_fence", defArgs (top 76), defBody (top 76), defScope (top 76), [], []⟩⟩
def e_is_shut : Dd := ⟨0, 292, f_is_shut, ["plan", "faults", "parted", "fence", "spot", "stretch", "other", "ends_there"], ⟨("is_shut", none), "is_shut", "is_shut", defArgs (top 77), defBody (top 77), defScope (top 77), [], []⟩⟩
def e_is_still : Dd := ⟨0, 293, f_is_still, ["claim", "fence", "word", "plan", "faults", "parted", "spot", "one"], ⟨("is_still", none), "is_still", "is_still", defArgs (top 78), defBody (top 78), defScope (top 78), [], []⟩⟩
def e_are_spans : Dd := ⟨0, 294, f_are_spans, ["weights", "most", "many", "spans", "one", "k", "first", "last"], ⟨("are_spans", none), "are_spans", "are_spans", defArgs (top 79), defBody (top 79), defScope (top 79), [], []⟩⟩
def e_are_fewest : Dd := ⟨0, 295, f_are_fewest, ["claim", "spans", "word", "weights", "most", "found", "borders", "k"], ⟨("are_fewest", none), "are_fewest", "are_fewest", defArgs (top 80), defBody (top 80), defScope (top 80), [], []⟩⟩
def e_is_entry : Dd := ⟨0, 296, f_is_entry, ["thing"], ⟨("is_entry", none), "is_entry", "is_entry", defArgs (top 81), defBody (top 81), defScope (top 81), [], []⟩⟩
def e_is_log : Dd := ⟨0, 297, f_is_log, ["thing", "one"], ⟨("is_log", none), "is_log", "is_log", defArgs (top 82), defBody (top 82), defScope (top 82), [], []⟩⟩
def e_are_joined : Dd := ⟨0, 298, f_are_joined, ["one", "other", "log", "entry"], ⟨("are_joined", none), "are_joined", "are_joined", defArgs (top 83), defBody (top 83), defScope (top 83), [], []⟩⟩
def e_are_said : Dd := ⟨0, 299, f_are_said, ["table", "history", "addresses", "runner", "told", "warned", "turned", "hour"], ⟨("are_said", none), "are_said", "are_said", defArgs (top 84), defBody (top 84), defScope (top 84), [], []⟩⟩
def e_holds : Dd := ⟨0, 161, f_holds, ["claim", "paper", "form"], ⟨("holds", none), "holds", "holds", defArgs (top 85), defBody (top 85), defScope (top 85), [], []⟩⟩
def e_law_bag : Dd := ⟨0, 2, f_law_bag, ["_law_script", "_law_k", "_law_cell"], ⟨("_law_bag", none), "_law_bag", "_law_bag", defArgs (top 87), defBody (top 87), defScope (top 87), [], []⟩⟩
def e_law_take : Dd := ⟨0, 3, f_law_take, ["_law_bag_here", "_law_many", "_law_digit", "_law_primes", "_law_step", "_law_base", "_law_found"], ⟨("_law_take", none), "_law_take", "_law_take", defArgs (top 88), defBody (top 88), defScope (top 88), [], []⟩⟩
def e_law_entry : Dd := ⟨0, 359, f_law_entry, ["_law_bag_here", "_law_number", "_law_text", "_law_at"], ⟨("_law_entry", none), "_law_entry", "_law_entry", defArgs (top 89), defBody (top 89), defScope (top 89), [], []⟩⟩
def e_law_odd : Dd := ⟨0, 360, f_law_odd, ["_law_bag_here", "_law_log", "_law_way", "_law_at", "_law_stamp", "_law_panel", "_law_number", "_law_text", "_law_odd_here"], ⟨("_law_odd", none), "_law_odd", "_law_odd", defArgs (top 90), defBody (top 90), defScope (top 90), [], []⟩⟩
def e_law_is_log : Dd := ⟨0, 358, f_law_is_log, ["_law_thing", "_law_one", "_law_part", "_law_k"], ⟨("_law_is_log", none), "_law_is_log", "_law_is_log", defArgs (top 91), defBody (top 91), defScope (top 91), [], []⟩⟩
def e_law_copy : Dd := ⟨0, 362, f_law_copy, ["_law_thing"], ⟨("_law_copy", none), "_law_copy", "_law_copy", defArgs (top 92), defBody (top 92), defScope (top 92), [], []⟩⟩
def e_law_due : Dd := ⟨0, 361, f_law_due, ["_law_one", "_law_other", "_law_log", "_law_k", "_law_entry_here"], ⟨("_law_due", none), "_law_due", "_law_due", defArgs (top 93), defBody (top 93), defScope (top 93), [], []⟩⟩
def e_law : Dd := ⟨0, 4, f_law, ["_law_script", "_law_k", "_law_bag_here", "_law_entries", "_law_number", "_law_one", "_law_entry_here", "_law_other", "_law_log", "_law_some", "_law_due_here", "_law_handed", "_law_told"], ⟨("law", none), "law", "law", defArgs (top 94), defBody (top 94), defScope (top 94), [], []⟩⟩
def nms : List Str := (["", "__init__", "_law_bag", "_law_take", "law", "_law_kind", "HouseError", "NoPlan", "NoText", "NoStretch", "NoSpot", "NoOpener", "NoAddress", "NoRules", "NoHand"] : List Str) ++ (["NoPanel", "NoLink", "NoLog", "NoDeed", "NoRow", "LETTERS", "FIGURES", "MOST_LETTERS", "is_whole", "is_name", "rises", "are_rising", "are_whole", "is_written", "numeral"] : List Str) ++ (["KINDS", "TOLD_BY", "OPENER", "MOST_ADDRESS", "MOST_DEVICES", "MOST_LOOPS", "MOST_PLACES", "MOST_SPUR", "MOST_ZONES", "is_device", "is_place", "is_loop", "is_zone", "are_zones", "is_plan"] : List Str) ++ (["devices", "stretches", "openers", "parts", "told_twice", "crowded", "zone_at_odds", "wrong", "is_let_by", "device_text", "place_text", "show_plan", "device_of", "place_of", "zone_of"] : List Str) ++ (["plan_of", "read_plan", "spur_come_to", "come_to", "steps_of", "feels", "all_rest", "heard_by", "MOST_NUMBER", "Wires", "need_stretch", "need_spot", "cut", "short", "mend"] : List Str) ++ (["how", "take_out", "put_in", "there", "parted", "change", "act", "rests", "come_to_rest", "heard", "plan", "hows", "stops", "devices_there", "MOST_TURN"] : List Str) ++ (["MOST_WORD", "CHECKED_BY", "check_of", "frame", "is_frame", "TURNS", "LOST_AT", "words_counted", "Talk", "turn", "beat", "hears", "misses", "word_of", "lost"] : List Str) ++ (["heard_now", "all_addresses", "beats_done", "last_words", "missed_for", "were_two", "are_lost", "last_heard", "ROW_ABOVE", "ROW_CALM", "DIRTY", "Seeker", "ask", "count_above", "drift"] : List Str) ++ (["reset", "base", "warned", "first_mark", "day_mark", "night_mark", "number", "level_base", "over_first", "above_run", "calm_run", "has_warned", "MOST_OF", "MOST_KEY", "MOST_HOUR"] : List Str) ++ (["MOST_BACK", "DEEPEST", "MOST_CONDITIONS", "MOST_RULES", "MOST_WARNED", "MOST_BEATS", "SOUNDED", "inner_of", "is_condition", "is_rule", "is_rules", "is_brought", "is_history", "all_in", "names_in"] : List Str) ++ (["terms_of", "stranger", "sounds_nothing", "is_ready", "in_order", "ring", "still_bell", "rules_wrong", "need_rules", "in_hours", "Saying", "holds", "reckoned", "zones", "terms"] : List Str) ++ (["history", "known", "says", "MOST_ROWS", "is_row", "is_out", "is_table", "Making", "number_of", "made", "rows", "numbers", "named", "needed", "table_of"] : List Str) ++ (["Runner", "holds_now", "outs", "past", "MOST_FIGURES", "TWO", "show_condition", "show_rules", "must_be", "behind", "end_of", "number_at", "name_at", "plain_at", "two_at"] : List Str) ++ (["condition_at", "row_of", "read_rules", "STILL", "SOUNDING", "SILENCED", "waiting", "Sounder", "need", "all_that", "moved_on", "used_again", "press", "lengthen", "silence"] : List Str) ++ (["put_out", "state_of", "sounded", "out_of_use", "delays", "standing", "longer", "unused", "wanted_before", "MARKS", "GREAT", "SMALL", "SIGNS", "LEFT_OUT", "MOST_SIGNS"] : List Str) ++ (["SUM_OF_SIZES", "NUMBERS", "is_sign_number", "sign_of", "check_of_cells", "record", "note_at", "read_journal", "Journal", "write", "notes", "cells", "kept_notes", "Store", "kept_loads"] : List Str) ++ (["keep", "held", "stands", "full_at", "gained", "all_loads", "now_held", "kept_many", "joined", "Ring", "need_panel", "need_link", "log_of", "tied_to", "houses"] : List Str) ++ (["many_panels", "logs", "links_whole", "HOWS", "need_plan", "heard_so", "of_loop", "heard_with", "single_faults", "fault_sets", "agreeing", "told_place", "NOUGHT", "fewest_openers", "lowest"] : List Str) ++ (["plus", "less", "times", "drops", "volts", "least_supply", "ENDS", "MOST_WEIGHTS", "MOST_WEIGHT", "MOST_STAMP", "MOST_TEXT", "is_text_of", "is_fault", "are_faults", "is_opener"] : List Str) ++ (["are_openers", "all_so", "is_spot", "goes_on", "is_heard", "beside", "is_of_fence", "is_shut", "is_still", "are_spans", "are_fewest", "is_entry", "is_log", "are_joined", "are_said"] : List Str) ++ (["way_to", "fence_round", "paper_of", "MORNING", "EVENING", "LOST", "note_of", "spoilt", "House", "all_of", "befall", "done", "answers", "asked", "dumb_now"] : List Str) ++ (["wires", "table_run", "loops", "kinds", "talking", "seekers", "pressed", "journal", "dumb_ahead", "NONE", "KEPT", "DONE", "numbers_of", "some_rising", "brought_by"] : List Str) ++ (["pointed", "listed", "wrong_words", "Desk", "say", "row_told", "need_loop", "plan_told", "rules_told", "stretch_told", "heard_told", "where_told", "beat_told", "kept_plan", "kept_wires"] : List Str) ++ (["kept_run", "_law_whole", "_law_name", "_law_names", "_law_loop", "_law_parts", "_law_plan", "_law_walk", "_law_befall", "_law_rests", "_law_outs", "MOST_ADDRESS_plans", "MOST_ADDRESS_rules", "_law_is_log", "_law_entry"] : List Str) ++ (["_law_odd", "_law_due", "_law_copy"] : List Str)
def pk : Pk := ⟨nms, 1, [e_is_whole, e_is_name, e_rises, e_are_rising, e_are_whole, e_is_written, e_is_device, e_is_place, e_is_loop, e_is_zone, e_are_zones, e_is_plan, e_devices, e_stretches, e_openers, e_parts, e_told_twice, e_crowded, e_zone_at_odds, e_wrong, e_is_let_by, e_spur_come_to, e_come_to, e_steps_of, e_feels, e_all_rest, e_is_brought, e_is_history, e_in_hours, e_is_row, e_is_out, e_is_table, e_Runner___init__, e_Runner_beat, e_Runner_holds_now, e_is_text_of, e_is_fault, e_are_faults, e_is_opener, e_are_openers, e_all_so, e_is_spot, e_goes_on, e_is_heard, e_beside, e_is_of_fence, e_is_shut, e_is_still, e_are_spans, e_are_fewest, e_is_entry, e_is_log, e_are_joined, e_are_said, e_holds, e_law_bag, e_law_take, e_law_entry, e_law_odd, e_law_is_log, e_law_copy, e_law_due, e_law], [180], [(180, 175), (180, 182), (180, 183)], [(20, (D.str [97, 98, 99, 100, 101, 102, 103, 104, 105, 106, 107, 108, 109, 110, 111, 112, 113, 114, 115, 116, 117, 118, 119, 120, 121, 122])), (22, (D.int 8)), (30, (D.tup [(D.str [115, 101, 101, 107, 101, 114]), (D.str [107, 110, 111, 98]), (D.str [98, 101, 108, 108]), (D.str [100, 111, 111, 114])])), (31, (D.tup [(D.str [115, 101, 101, 107, 101, 114]), (D.str [107, 110, 111, 98])])), (32, (D.str [111, 112, 101, 110, 101, 114])), (356, (D.int 99)), (34, (D.int 30)), (35, (D.int 3)), (36, (D.int 12)), (37, (D.int 3)), (38, (D.int 8)), (132, (D.int 9)), (133, (D.int 9)), (134, (D.int 23)), (135, (D.int 20)), (357, (D.int 99)), (138, (D.int 16)), (139, (D.int 30)), (140, (D.int 60)), (168, (D.int 320)), (258, (D.tup [(D.str [99, 117, 116]), (D.str [115, 104, 111, 114, 116])])), (276, (D.tup [(D.str [65]), (D.str [66])])), (68, (D.int 99)), (277, (D.int 30)), (278, (D.int 9)), (279, (D.int 999)), (280, (D.int 20))], [], [], [], []⟩
-- raised: []; asked: []; hot: []
abbrev T : Tab := pk.tab
end Mn.K55
end

section
set_option Elab.async false
set_option linter.all false
set_option maxRecDepth 100000
set_option maxHeartbeats 4000000
namespace Mn.K55
open PySem L2 Mn
abbrev R : PySem.W.OpenRow := PySem.W.OpenLaw.row PySem.Challenge.rw_warnloop_k55_joined_claims
def layG (g : Addr → Option Obj) : Nat → List Addr → List Addr
  | 0, _ => []
  | n + 1, as => as ++ layG g n (as.flatMap fun a => match g a with | some o => He.refsD o | none => [])
def hookY (n : Nat) (p : Pk) : PySem.W.Hook where
  α := He.AlD
  obs := fun s => obsM p (He.frG s.heap.get? (layG s.heap.get? n [mainGlobals]))
  val := fun _ => He.valD p.fnl
  says := fun _ h => ∃ K : PySem.W.Frag, K.In h ∧ SaysM p K
  of := fun _ _ e => ⟨_, He.frG_in, e⟩
  keeps := fun _ _ _ ⟨K, hK, c⟩ k => ⟨K, PySem.W.Frag.In.keeps hK k, c⟩
abbrev hk : PySem.W.Hook := hookY 7 pk
def ob (s : PySem.W.SharedT) : He.AlD := obsM pk (He.frG (HandSHeadRun.getT s) (layG (HandSHeadRun.getT s) 7 [mainGlobals]))
theorem ob_eq (s : PySem.W.SharedT) : ob s = hk.obs s.abs := by
  have e : HandSHeadRun.getT s = s.abs.heap.get? := funext (HandSHeadRun.getT_eq s)
  unfold ob
  rw [e]
  rfl
def loose : List PySem.Str := (["LETTERS", "MOST_LETTERS", "is_whole", "is_name", "rises", "are_rising", "are_whole", "is_written", "KINDS", "TOLD_BY", "OPENER", "MOST_ADDRESS_plans", "MOST_DEVICES", "MOST_LOOPS", "MOST_PLACES"] : List PySem.Str) ++ (["MOST_SPUR", "MOST_ZONES", "is_device", "is_place", "is_loop", "is_zone", "are_zones", "is_plan", "devices", "stretches", "openers", "parts", "told_twice", "crowded", "zone_at_odds"] : List PySem.Str) ++ (["wrong", "is_let_by", "spur_come_to", "come_to", "steps_of", "feels", "all_rest", "MOST_OF", "MOST_KEY", "MOST_HOUR", "MOST_BACK", "MOST_ADDRESS_rules", "MOST_RULES", "MOST_WARNED", "MOST_BEATS"] : List PySem.Str) ++ (["is_brought", "is_history", "in_hours", "MOST_ROWS", "is_row", "is_out", "is_table", "Runner", "HOWS", "ENDS", "MOST_NUMBER", "MOST_WEIGHTS", "MOST_WEIGHT", "MOST_STAMP", "MOST_TEXT"] : List PySem.Str) ++ (["is_text_of", "is_fault", "are_faults", "is_opener", "are_openers", "all_so", "is_spot", "goes_on", "is_heard", "beside", "is_of_fence", "is_shut", "is_still", "are_spans", "are_fewest"] : List PySem.Str) ++ (["is_entry", "is_log", "are_joined", "are_said", "holds", "_law_bag", "_law_take", "_law_entry", "_law_odd", "_law_is_log", "_law_copy", "_law_due"] : List PySem.Str)
set_option maxHeartbeats 0 in
theorem run (w : World) : HandSHeadRun.RunEq R (PySem.W.view R.prog [94]) hk ob 30000 loose w := by
  intro os
  kernel_rfl
end Mn.K55
end

section
set_option Elab.async false
set_option linter.all false
set_option maxRecDepth 100000
set_option maxHeartbeats 4000000
namespace Mn
open PySem
open Sem (wp)
open AutoSeq1 (wpAny_loadPart')
theorem new_enumT (t : Addr) (xs : Array Value) (k : Nat) (dd : Option Addr) (sl : Array (Option Value)) :
    Meets (Builtin.«enumerate.__new__» ⟨[.type "enumerate", .ref t], []⟩) (fun _ R z => z.heap.get? t = some { cls := .type "tuple", dict := dd, data := .seq xs k, slots := sl } ∧
      R (.ok (.ret (.ref (z.heap.push { cls := .type "tuple_iterator", data := .fields #[.ref t, .int 0 0] }).objs.size)))
        { z with heap := (z.heap.push { cls := .type "tuple_iterator", data := .fields #[.ref t, .int 0 0] }).push { cls := .type "enumerate", data := .fields #[.none, .bool false, .ref z.heap.objs.size, rawInt 0, .none, .none] } }) :=
  .of_wp fun prog w A R z h => by
    obtain ⟨hp, g, d, tk, os⟩ := z; obtain ⟨ht, h⟩ := h
    have hsub := sub_enumerate
    have hT : Heap.IsTuple (Shared.heap ⟨hp, g, d, tk, os⟩) t xs := ⟨_, ht, rfl, k, rfl⟩
    wp_walk using wpAny_loadPart' ht
    refine wpAny_stack_any fun st => wpAny_pure ?_
    split
    · rename_i c _ _ _ _ _
      cases (c == Value.type "enumerate")
      · wp_walk using wpAny_loadPart' ht, wpAny_pyIter_tuple hT
        exact ⟨_, rfl, h⟩
      · wp_walk using wpAny_loadPart' ht, wpAny_pyIter_tuple hT
        exact ⟨_, rfl, h⟩
    · wp_walk using wpAny_loadPart' ht, wpAny_pyIter_tuple hT
      exact ⟨_, rfl, h⟩
section
variable {prog : Program} {w : World} {A : Around} {E : Value → Shared → Prop} {s : Shared}
theorem call_enumT {t : Addr} {xs : Array Value} {Q : Value → Shared → Prop} (ht : s.heap.IsTuple t xs)
    (h : ∀ h2, IsEnum h2 (s.heap.objs.size + 1) s.heap.objs.size 0 .none → h2.IsTupleIter s.heap.objs.size t 0 → h2.objs.size = s.heap.objs.size + 2 → (∀ b o, s.heap.get? b = some o → h2.get? b = some o) → Q (.ref (s.heap.objs.size + 1)) { s with heap := h2 }) :
    wpAny (model prog w) A (call (.type "enumerate") [.ref t]) Q E s := by
  obtain ⟨⟨c, dct, dt, sl⟩, hl, hc, n, hd⟩ := ht
  replace hc : c = .type "tuple" := hc
  replace hd : dt = .seq xs n := hd
  subst hc hd
  have h1 : (s.heap.push { cls := .type "tuple_iterator", data := .fields #[.ref t, .int 0 0] }).objs.size = s.heap.objs.size + 1 := Heap.size_push ..
  refine callType_new F.called_enumerate (by decide) (F.typeCall_enumerate_1 _) (F.newCall_enumerate_1 _) (fun o => F.args_object_init_2 o _) F.entry_enumerate_new
    (new_enumT t xs n dct sl) ⟨hl, ?_⟩
  show _ ∧ _
  rw [h1]
  have h2 : IsEnum ((s.heap.push { cls := .type "tuple_iterator", data := .fields #[.ref t, .int 0 0] }).push
      { cls := .type "enumerate", data := .fields #[.none, .bool false, .ref s.heap.objs.size, rawInt 0, .none, .none] }) (s.heap.objs.size + 1) s.heap.objs.size 0 .none := by
    have g := Heap.get?_push_size (s.heap.push { cls := .type "tuple_iterator", data := .fields #[.ref t, .int 0 0] })
      (o := { cls := .type "enumerate", data := .fields #[.none, .bool false, .ref s.heap.objs.size, rawInt 0, .none, .none] }) rfl
    rw [h1] at g
    exact g
  refine ⟨⟨_, h2, rfl⟩, h _ h2 ⟨_, Heap.get?_push_of_some _ (Heap.get?_push_size _ rfl), rfl, rfl⟩ ?_ fun b o z => Heap.get?_push_of_some _ (Heap.get?_push_of_some _ z)⟩
  rw [Heap.size_push, h1]
end
end Mn
end

section
set_option Elab.async false
set_option linter.all false
set_option maxRecDepth 100000
set_option maxHeartbeats 4000000
namespace Mn
open PySem PySem.Spec PyProof.Rows L2
section
variable {prog : Program} {w : World} {A : Around} {E : Value → Shared → Prop} {s : Shared} {t : Addr} {xs : Array (Int × Tok)} {Q : Value → Shared → Prop}
theorem tup_there (ht : s.heap.IsTuple t (intItems xs)) : t < s.heap.objs.size := by
  obtain ⟨_, e, _⟩ := ht
  exact Heap.lt_size e
theorem tup_fp {o : Obj} (ht : s.heap.IsTuple t (intItems xs)) : ∀ b ∈ [s.heap.objs.size, t], b < (s.heap.push o).objs.size := fun b hb => by
  rw [Heap.size_push]
  have := tup_there ht
  rcases List.mem_cons.mp hb with e | hb
  · rw [e]; exact Nat.lt_succ_self _
  · rw [List.mem_singleton.mp hb]; exact Nat.lt_succ_of_lt this
theorem tup_old {o : Obj} {h' : Heap} (hk : ∀ b u, b ∉ [s.heap.objs.size] → (s.heap.push o).get? b = some u → h'.get? b = some u) : ∀ b u, s.heap.get? b = some u → h'.get? b = some u := fun b u e =>
  hk b u (fun hm => Nat.lt_irrefl _ ((List.mem_singleton.mp hm) ▸ Heap.lt_size e)) (Heap.get?_push_of_some _ e)
theorem max_tupI (hh : A.handled = none) (ht : s.heap.IsTuple t (intItems xs)) (hne : 0 < xs.size)
    (h : ∀ v h' tk, (intItems xs)[argBest (fun i j => decide (numAt xs i > numAt xs j)) (xs.size - 1)]? = some v → (∀ b o, s.heap.get? b = some o → h'.get? b = some o) → Q v { s with heap := h', toks := tk }) :
    wpAny (model prog w) A (call (.builtin "max") [.ref t]) Q E s := by
  apply call_max_walk
  apply wpAny_pyIter_tuple ht
  refine ⟨_, _, _, _, _, _, _, rfl, Walks.tuple (A := A.in1) hh s.heap.objs.size t (Nat.ne_of_lt (tup_there ht)) (intItems xs), ⟨⟨_, Heap.get?_push_size _ rfl, rfl, rfl⟩, ht.at fun o e => Heap.get?_push_of_some _ e⟩,
    tup_fp ht, by simpa [intItems] using hne, CmpOf.ints_gt (numAt xs) (fun _ _ => intItems_at), ?_⟩
  intro v h' tk hP hk
  exact h v h' tk (by simpa [intItems] using hP) (tup_old hk)
theorem min_tupI (hh : A.handled = none) (ht : s.heap.IsTuple t (intItems xs)) (hne : 0 < xs.size)
    (h : ∀ v h' tk, (intItems xs)[argBest (fun i j => decide (numAt xs i < numAt xs j)) (xs.size - 1)]? = some v → (∀ b o, s.heap.get? b = some o → h'.get? b = some o) → Q v { s with heap := h', toks := tk }) :
    wpAny (model prog w) A (call (.builtin "min") [.ref t]) Q E s := by
  apply call_min_walk
  apply wpAny_pyIter_tuple ht
  refine ⟨_, _, _, _, _, _, _, rfl, Walks.tuple (A := A.in1) hh s.heap.objs.size t (Nat.ne_of_lt (tup_there ht)) (intItems xs), ⟨⟨_, Heap.get?_push_size _ rfl, rfl, rfl⟩, ht.at fun o e => Heap.get?_push_of_some _ e⟩,
    tup_fp ht, by simpa [intItems] using hne, CmpOf.ints_lt (numAt xs) (fun _ _ => intItems_at), ?_⟩
  intro v h' tk hP hk
  exact h v h' tk (by simpa [intItems] using hP) (tup_old hk)
end
section
variable {X : Cx}
def rSumT (K : PySem.W.Frag) : List V → Hp → VK → Prop := fun vs H Q => ∃ (a : Addr) (ns : List Int), vs = [V.ref a] ∧ SqT K H a (ns.map V.int) ∧ Q (.int ns.sum) H
def rMaxT (K : PySem.W.Frag) : List V → Hp → VK → Prop := fun vs H Q => ∃ (a : Addr) (ns : List Int), vs = [V.ref a] ∧ SqT K H a (ns.map V.int) ∧ 0 < ns.length ∧ ∀ m, m ∈ ns → (∀ y, y ∈ ns → y ≤ m) → Q (.int m) H
def rMinT (K : PySem.W.Frag) : List V → Hp → VK → Prop := fun vs H Q => ∃ (a : Addr) (ns : List Int), vs = [V.ref a] ∧ SqT K H a (ns.map V.int) ∧ 0 < ns.length ∧ ∀ m, m ∈ ns → (∀ y, y ∈ ns → m ≤ y) → Q (.int m) H
theorem cr_sumT (hc : X.calm = true) : CallR X (.builtin "sum") (rSumT X.K) := by
  intro pins s σ H vs us Q J r h
  obtain ⟨a, ns, rfl, hs, q⟩ := h
  obtain ⟨its, rv, ht, _⟩ := J.tuple hs
  rw [Vals.ref1 r]
  have hi := rv.ints
  obtain ⟨xs, e⟩ := hi.allInts.items
  have hn : numsOf (intItems xs).toList = ns := by rw [← e]; exact hi.numsOf
  rw [nums_intItems] at hn
  rw [e] at ht
  apply PySem.W.ktm_sumG (J.ok.hd hc) ht
  intro h' tk t' hk
  rw [preSum_eq, List.take_of_length_le (by simp), hn]
  exact ⟨.int _, H, J.kept hk, ⟨_, rfl⟩, q⟩
theorem cr_maxT (hc : X.calm = true) : CallR X (.builtin "max") (rMaxT X.K) := by
  intro pins s σ H vs us Q J r h
  obtain ⟨a, ns, rfl, hs, hne, q⟩ := h
  obtain ⟨its, rv, ht, _⟩ := J.tuple hs
  rw [Vals.ref1 r]
  have hi := rv.ints
  obtain ⟨xs, e⟩ := hi.allInts.items
  have hn : numsOf (intItems xs).toList = ns := by rw [← e]; exact hi.numsOf
  rw [nums_intItems] at hn
  subst hn
  rw [e] at ht
  have hsz : 0 < xs.size := by simpa using hne
  apply max_tupI (J.ok.hd hc) ht hsz
  intro v h' tk hv hk
  obtain ⟨t, rfl⟩ := intItems_at hv
  obtain ⟨h1, h2⟩ := argBest_gt (numAt xs) (xs.size - 1)
  refine ⟨.int _, H, J.kept hk, ⟨_, rfl⟩, q _ ?_ fun y hy => ?_⟩
  · rw [numAt_eq]
    exact PySem.getD_mem (by rw [List.length_map, Array.length_toList]; omega)
  · obtain ⟨j, hj, rfl⟩ := mem_getD hy
    rw [List.length_map, Array.length_toList] at hj
    rw [← numAt_eq]
    exact h2 j (by omega)
theorem cr_minT (hc : X.calm = true) : CallR X (.builtin "min") (rMinT X.K) := by
  intro pins s σ H vs us Q J r h
  obtain ⟨a, ns, rfl, hs, hne, q⟩ := h
  obtain ⟨its, rv, ht, _⟩ := J.tuple hs
  rw [Vals.ref1 r]
  have hi := rv.ints
  obtain ⟨xs, e⟩ := hi.allInts.items
  have hn : numsOf (intItems xs).toList = ns := by rw [← e]; exact hi.numsOf
  rw [nums_intItems] at hn
  subst hn
  rw [e] at ht
  have hsz : 0 < xs.size := by simpa using hne
  apply min_tupI (J.ok.hd hc) ht hsz
  intro v h' tk hv hk
  obtain ⟨t, rfl⟩ := intItems_at hv
  obtain ⟨h1, h2⟩ := argBest_lt (numAt xs) (xs.size - 1)
  refine ⟨.int _, H, J.kept hk, ⟨_, rfl⟩, q _ ?_ fun y hy => ?_⟩
  · rw [numAt_eq]
    exact PySem.getD_mem (by rw [List.length_map, Array.length_toList]; omega)
  · obtain ⟨j, hj, rfl⟩ := mem_getD hy
    rw [List.length_map, Array.length_toList] at hj
    rw [← numAt_eq]
    exact h2 j (by omega)
end
end Mn
end

section
set_option Elab.async false
set_option linter.all false
set_option maxRecDepth 100000
set_option maxHeartbeats 4000000
namespace Mn
open PySem PySem.Spec PyProof.Rows L2
section
variable {prog : Program} {w : World} {A : Around} {E : Value → Shared → Prop} {s : Shared}
theorem draw_list {it l : Addr} {items : Array Value} (hne : l ≠ it) : ∀ (n i : Nat) (s : Shared) (Q : List Value → Shared → Prop), s.heap.IsListIter it l i → s.heap.IsList l items → i + n ≤ items.size →
    (∀ h', h'.IsListIter it l (i + n) → Heap.SameBut it s.heap h' → Q ((items.toList.drop i).take n) { s with heap := h' }) → wpAny (model prog w) A (draw (.ref it) n) Q E s
  | 0, i, s, Q, hit, _, _, hQ => by
    show wpAny _ _ (pure []) Q E s
    exact wpAny_pure (by simpa using hQ s.heap hit (Heap.SameBut.refl ..))
  | n + 1, i, s, Q, hit, hl, hle, hQ => by
    have hlt : i < items.size := by omega
    show wpAny _ _ (pyNext (.ref it) >>= _) Q E s
    refine wpAny_bind (wpAny_pyNext_list_item hit hl (x := items[i]) (by simp [hlt]) fun h1 hit1 hs1 => ?_)
    refine wpAny_bind (wpAny_holding (draw_list hne n (i + 1) _ _ hit1 (hl.extBut hs1.extBut hne) (by omega) fun h2 hit2 hs2 => wpAny_pure ?_))
    have hd : items.toList.drop i = items[i] :: items.toList.drop (i + 1) := by simp [List.drop_eq_getElem_cons, hlt]
    have := hQ h2 (by rw [show i + (n + 1) = i + 1 + n by omega]; exact hit2) (hs1.trans hs2)
    rw [hd, List.take_succ_cons] at this
    exact this
theorem unpack_items_list {l : Addr} {items : Array Value} {Q : List Value → Shared → Prop} (hh : A.handled = none) (hl : s.heap.IsList l items)
    (hQ : ∀ h', Heap.ExtBut s.heap.objs.size s.heap h' → Q items.toList { s with heap := h' }) : wpAny (model prog w) A (unpackItems (.ref l) items.size none) Q E s := by
  have hlt : l ≠ s.heap.objs.size := by obtain ⟨o, ho, _⟩ := hl; exact Nat.ne_of_lt (Heap.lt_size ho)
  unfold unpackItems
  refine wpAny_bind ?_
  · unfold notIterableAtAll
    refine wpAny_bind (wpAny_specialOf hl.typeIs slot_list_iter.lookup ?_)
    refine wpAny_pure ?_
    simp only [Bool.false_eq_true, if_false]
    refine wpAny_bind (wpAny_holding (wpAny_pyIter_list hl ?_))
    refine wpAny_bind (wpAny_holding (draw_list hlt items.size 0 _ _ ⟨_, Heap.get?_push_size _ rfl, rfl, rfl⟩ (hl.push _) (by omega) fun h1 hit1 hs1 => ?_))
    have hall : List.take items.size (List.drop 0 items.toList) = items.toList := by
      rw [List.drop_zero]; exact List.take_of_length_le (by simp)
    rw [hall]
    rw [if_neg (by simp)]
    have hl1 : h1.IsList l items := (hl.push _).extBut hs1.extBut hlt
    refine wpAny_bind (wpAny_holding (wpAny_pyNext_list_end hh hit1 hl1 (by simp) fun h2 he2 => ?_))
    simp only [Option.isSome_none, Bool.false_eq_true, if_false]
    refine wpAny_pure (hQ h2 fun b o hb e => he2 b o hb (hs1.extBut b o hb (Heap.get?_push_of_some _ e)))
theorem assign_tuple_list {env : PySem.Env} {elts : List Expr} {x1} {pos : Pos} {l : Addr} {items : Array Value} {Q : Unit → Shared → Prop} (hh : A.handled = none) (hl : s.heap.IsList l items)
    (hn : (assignEach elts env).length = items.size) (hstar : (assignEach elts env).findIdx? (·.1) = none)
    (h : ∀ h', Heap.ExtBut s.heap.objs.size s.heap h' → wpAny (model prog w) A (assignInOrder ((assignEach elts env).map (·.2)) items.toList) Q E { s with heap := h' }) :
    wpAny (model prog w) A (assign (.Tuple elts x1 pos) env (.ref l)) Q E s := by
  rw [assign_Tuple]
  refine wpAny_bind (wpAny_standAt ?_)
  unfold unpack
  rw [hn, hstar]
  exact wpAny_bind (wpAny_holding (unpack_items_list hh hl h))
end
section
variable {X : Cx} {pos : Pos}
/-- a tuple or a list of that length, taken apart -/
def gUnp (K : PySem.W.Frag) (n : Nat) (t : TGs) : TG := fun v σ H Q => ∃ a xs, v = .ref a ∧ (SqT K H a xs ∨ SqL K H a xs) ∧ xs.length = n ∧ t xs σ H Q
theorem pg_unp {es : List Expr} {k : Nat} {t : TGs} {n : Nat} (hc : X.calm = true) (h : PGs X es t)
    (hn : (assignEach es X.env).length = n) (hst : (assignEach es X.env).findIdx? (·.1) = none) : PG X (.Tuple es k pos) (gUnp X.K n t) := by
  refine ⟨fun pins s σ H v u Q I r hw => ?_⟩
  obtain ⟨a, xs, e1, hq, hl, hw⟩ := hw
  subst e1
  cases r
  rcases hq with hq | hq
  · obtain ⟨its, rv, ht, hz⟩ := I.tuple hq
    refine assign_Tuple_tuple (I.ok.hd hc) ht (by simp [hn, ← hl, rv.length]) hst fun h' hx => ?_
    have I1 : Inv X pins σ H { s with heap := h' } := I.kept (t' := s.toks) fun b o e => hx b o (Nat.ne_of_lt (Heap.lt_size e)) e
    exact h.run pins _ σ H xs _ Q I1 (by simpa using rv) hw
  · obtain ⟨its, rv, ⟨o, n, ho, hcls, _, hdt⟩, hz⟩ := I.list hq
    refine assign_tuple_list (I.ok.hd hc) ⟨o, ho, hcls, n, hdt⟩ (by simp [hn, ← hl, rv.length]) hst fun h' hx => ?_
    have I1 : Inv X pins σ H { s with heap := h' } := I.kept (t' := s.toks) fun b o e => hx b o (Nat.ne_of_lt (Heap.lt_size e)) e
    exact h.run pins _ σ H xs _ Q I1 (by simpa using rv) hw
end
end Mn
end

section
set_option Elab.async false
set_option linter.all false
set_option maxRecDepth 100000
set_option maxHeartbeats 4000000
namespace Mn
open PySem PySem.Spec PyProof.Rows L2
/-- each key stands where it is said to -/
def KeysIn (P : Program) (w : World) (h : Heap) (xs : List XE) : Prop := ∀ x ∈ xs, (nestedKind P w).is h x.1 x.2.1
def hasX (xs : List XE) (k : NestedKey) : Bool := xs.any fun p => decide (p.1 = k)
def getX (xs : List XE) (k : NestedKey) : Option V := (xs.find? fun p => decide (p.1 = k)).map fun p => p.2.2
def putX (xs : List XE) (k : NestedKey) (b : Addr) (v : V) : List XE := if hasX xs k = true then xs.map fun p => if p.1 = k then (p.1, p.2.1, v) else p else xs ++ [(k, b, v)]
def dropX (xs : List XE) (k : NestedKey) : List XE := xs.filter fun p => decide (p.1 ≠ k)
section
variable {xs : List XE} {ys : List YE} {k : NestedKey}
theorem rx_get (r : RX xs ys) : RelO (getX xs k) ((atKey ys k).map (·.2)) := by
  induction r with
  | nil => exact True.intro
  | @cons p q ps qs h t ih =>
    obtain ⟨h1, h2, h3⟩ := h
    by_cases e : p.1 = k
    · have e2 : q.1 = k := h1.symm.trans e
      simp only [getX, atKey, List.find?_cons, e, e2, decide_true, Option.map_some]
      exact h3
    · have e2 : ¬ q.1 = k := fun z => e (h1.trans z)
      simp only [getX, atKey, List.find?_cons, e, e2, decide_false] at ih ⊢
      exact ih
theorem rx_has (r : RX xs ys) : hasX xs k = (atKey ys k).isSome := by
  induction r with
  | nil => rfl
  | @cons p q ps qs h t ih =>
    obtain ⟨h1, h2, h3⟩ := h
    unfold hasX at ih ⊢
    rw [List.any_cons, ih]
    by_cases e : p.1 = k
    · have e2 : q.1 = k := h1.symm.trans e
      simp [atKey, List.find?_cons, e, e2]
    · have e2 : ¬ q.1 = k := fun z => e (h1.trans z)
      simp [atKey, List.find?_cons, e, e2]
theorem rx_repl (r : RX xs ys) {v : V} {u : Value} (rv : RelV v u) : RX (xs.map fun p => if p.1 = k then (p.1, p.2.1, v) else p) (ys.map (putAt k u)) := by
  induction r with
  | nil => exact .nil
  | @cons p q ps qs h t ih =>
    refine .cons ?_ ih
    obtain ⟨h1, h2, h3⟩ := h
    show SameX (if p.1 = k then (p.1, p.2.1, v) else p) (if q.1 = k then (q.1, q.2.1, u) else q)
    by_cases e : p.1 = k
    · rw [if_pos e, if_pos (h1.symm.trans e)]
      exact ⟨h1, h2, rv⟩
    · rw [if_neg e, if_neg fun z => e (h1.trans z)]
      exact ⟨h1, h2, h3⟩
theorem rx_put (r : RX xs ys) {b : Addr} {v : V} {u : Value} (rv : RelV v u) : RX (putX xs k b v) (storedH ys k b u) := by
  unfold putX storedH
  rw [rx_has r]
  by_cases q : (atKey ys k).isSome = true
  · rw [if_pos q, if_pos q]; exact rx_repl r rv
  · rw [if_neg q, if_neg q]; exact Paired.snoc r ⟨rfl, rfl, rv⟩
theorem rx_drop (r : RX xs ys) : RX (dropX xs k) (withoutH ys k) := by
  unfold dropX withoutH
  induction r with
  | nil => exact .nil
  | @cons p q ps qs h t ih =>
    rw [List.filter_cons, List.filter_cons]
    by_cases e : p.1 = k
    · have e2 : q.1 = k := h.1.symm.trans e
      simp only [e, e2, ne_eq, not_true_eq_false, decide_false, Bool.false_eq_true, if_false]
      exact ih
    · have e2 : ¬ q.1 = k := fun z => e (h.1.trans z)
      simp only [e, e2, ne_eq, not_false_eq_true, decide_true, if_true]
      exact .cons h ih
theorem rx_len (r : RX xs ys) : xs.length = ys.length := Paired.length r
theorem rx_keys (r : RX xs ys) : xs.map (·.1) = ys.map (·.1) := by
  induction r with
  | nil => rfl
  | cons h t ih => rw [List.map_cons, List.map_cons, ih, h.1]
theorem rx_addrs (r : RX xs ys) : (ys.map fun x => x.2.1) = xs.map fun x => x.2.1 := by
  induction r with
  | nil => rfl
  | cons h t ih => rw [List.map_cons, List.map_cons, ih, h.2.1]
theorem rx_mem (r : RX xs ys) : ∀ y ∈ ys, ∃ x ∈ xs, x.1 = y.1 ∧ x.2.1 = y.2.1 := by
  induction r with
  | nil => intro y hy; cases hy
  | @cons p q ps qs h t ih =>
    intro y hy
    rcases List.mem_cons.mp hy with e | hy
    · subst e; exact ⟨p, List.mem_cons_self, h.1, h.2.1⟩
    · obtain ⟨x, hx, z⟩ := ih y hy
      exact ⟨x, List.mem_cons_of_mem _ hx, z⟩
theorem putX_len {b : Addr} {v : V} : (putX xs k b v).length ≤ xs.length + 1 := by
  unfold putX
  split
  · rw [List.length_map]; omega
  · rw [List.length_append, List.length_cons, List.length_nil]; omega
theorem dropX_len : (dropX xs k).length ≤ xs.length := List.length_filter_le _ _
end
section
variable {X : Cx} {pins : List (Addr × Obj)} {σ : L2.St} {H : Hp} {s : Shared} {a b : Addr} {xs : List XE} {k : NestedKey} {A : Around} {E : Value → Shared → Prop}
theorem dt_of (I : Inv X pins σ H s) (D : DtAt X.w H a xs) (hk : KeysIn X.prog X.w s.heap xs) : ∃ ys, RX xs ys ∧ s.heap.DictOfH (nestedKind X.prog X.w) a ys := by
  obtain ⟨⟨ys, o, es, ep, r, ho, hc, hd, he⟩, _⟩ := (show ObjOk X.prog X.w H s.heap a (DtO X.w a xs) from I.hok a _ D.on)
  refine ⟨ys, r, o, es, ep, ho, hc, hd, he, fun y hy => ?_, by rw [← rx_keys r]; exact D.nd⟩
  obtain ⟨x, hx, e1, e2⟩ := rx_mem r y hy
  rw [← e1, ← e2]
  exact hk x hx
theorem dt_ok {P : Program} {w : World} {H : Hp} {h : Heap} {ys : List YE} (r : RX xs ys) (d : h.DictOfH (nestedKind P w) a ys) : ObjOk P w H h a (DtO w a xs) := by
  obtain ⟨o, es, ep, ho, hc, hd, he, _, _⟩ := d
  refine ⟨⟨ys, o, es, ep, r, ho, hc, hd, he⟩, ⟨o, ho⟩, ?_⟩
  rintro h1 h2 ⟨ys, o, es, ep, r, ho, q⟩ st
  exact ⟨ys, o, es, ep, r, st o ho, q⟩
theorem DtAt.nodup {w : World} {h : Heap} {P : Program} {ys : List YE} (r : RX xs ys) (d : h.DictOfH (nestedKind P w) a ys) : (xs.map (·.1)).Nodup := by
  obtain ⟨_, _, _, _, _, _, _, _, nd⟩ := d
  rw [rx_keys r]; exact nd
theorem DtAt.now (D : DtAt X.w H a xs) (I : Inv X pins σ H s) (hk : KeysIn X.prog X.w s.heap xs) : DtNow X H s.heap a xs := ⟨dt_of I D hk, D.sys, D.sz, by rw [D.on]; exact True.intro⟩
theorem room_nk (hu : A.units + 10 < cLine) : (nestedKind X.prog X.w).room A.in1 := by
  have : A.in1.units = A.units + 1 := rfl
  show A.in1.units + 8 < cLine
  omega
theorem dt_getItem {Q : Value → Shared → Prop} {v : V} (hu : A.units + 10 < cLine) (I : Inv X pins σ H s) (D : DtNow X H s.heap a xs) (kb : (nestedKind X.prog X.w).is s.heap k b) (g : getX xs k = some v)
    (h : ∀ u s2, Inv X pins σ H s2 → RelV v u → Q u s2) : wpAny (model X.prog X.w) A (getItem (.ref a) (.ref b)) Q E s := by
  obtain ⟨ys, r, d⟩ := D.d
  obtain ⟨u, hu2, ru⟩ := RelO.some_of (v := v) (o := (atKey ys k).map (·.2)) (by rw [← g]; exact rx_get r)
  obtain ⟨p, hp, e⟩ := Option.map_eq_some_iff.mp hu2
  refine wpAny_getItem_heap (room_nk hu) kb d hp ?_
  rw [e]
  exact h u _ (I.tok _) ru
theorem dt_in {Q : Value → Shared → Prop} (hu : A.units + 10 < cLine) (I : Inv X pins σ H s) (D : DtNow X H s.heap a xs) (kb : (nestedKind X.prog X.w).is s.heap k b)
    (h : ∀ s2, Inv X pins σ H s2 → Q (.bool (hasX xs k)) s2) : wpAny (model X.prog X.w) A (compareOp .In (.ref b) (.ref a)) Q E s := by
  obtain ⟨ys, r, d⟩ := D.d
  refine wpAny_in_heap (room_nk hu) kb D.sys d ?_
  rw [← rx_has r]
  exact h _ (I.tok _)
theorem dt_notIn {Q : Value → Shared → Prop} (hu : A.units + 10 < cLine) (I : Inv X pins σ H s) (D : DtNow X H s.heap a xs) (kb : (nestedKind X.prog X.w).is s.heap k b)
    (h : ∀ s2, Inv X pins σ H s2 → Q (.bool (!hasX xs k)) s2) : wpAny (model X.prog X.w) A (compareOp .NotIn (.ref b) (.ref a)) Q E s := by
  obtain ⟨ys, r, d⟩ := D.d
  have d2 : s.heap.DictKeyed (nestedKind X.prog X.w) a (pairsH ys) := ⟨ys, d, rfl⟩
  refine notIn_keyed (room_nk hu) kb D.sys d2 ?_
  rw [valueAt_pairsH, Option.isSome_map, ← rx_has r]
  exact h _ (I.tok _)
/-- a dict's object is written anew -/
theorem dt_write {h2 : Heap} {t2 : Nat} {zs : List XE} {ys : List YE} (I : Inv X pins σ H s) (mu : Mut (H a)) (hs : Heap.SameBut a s.heap h2) (r : RX zs ys) (d : h2.DictOfH (nestedKind X.prog X.w) a ys) :
    Inv X pins σ (upd H a (DtO X.w a zs)) { s with heap := h2, toks := t2 } := by
  refine I.write (x := a) (e := a) mu (.inl rfl) (fun b q hb z => (hs.2 b hb).trans z) ?_ (dt_ok r d)
  obtain ⟨o, _, _, ho, _⟩ := d
  exact ⟨o, ho⟩
theorem dt_setItem {Q : Unit → Shared → Prop} {v : V} {u : Value} (hu : A.units + 10 < cLine) (I : Inv X pins σ H s) (D : DtNow X H s.heap a xs) (kb : (nestedKind X.prog X.w).is s.heap k b) (hl : xs.length < sizeLine) (rv : RelV v u)
    (h : ∀ s2, Inv X pins σ (upd H a (DtO X.w a (putX xs k b v))) s2 → DtAt X.w (upd H a (DtO X.w a (putX xs k b v))) a (putX xs k b v) → Q () s2) : wpAny (model X.prog X.w) A (setItem (.ref a) (.ref b) u) Q E s := by
  obtain ⟨ys, r, d⟩ := D.d
  refine wpAny_setItem_heap (hsz := by rw [← rx_len r]; exact D.sz) (room_nk hu) kb d fun h2 d2 hs => ?_
  have r2 := rx_put (k := k) r (b := b) rv
  exact h _ (dt_write I D.mu hs r2 d2) ⟨upd_same, D.sys, DtAt.nodup r2 d2, by have := putX_len (xs := xs) (k := k) (b := b) (v := v); omega⟩
theorem dt_get2 {Q : Value → Shared → Prop} {z : V} {u : Value} (hu : A.units + 10 < cLine) (I : Inv X pins σ H s) (D : DtNow X H s.heap a xs) (kb : (nestedKind X.prog X.w).is s.heap k b) (rz : RelV z u)
    (h : ∀ w2 s2, Inv X pins σ H s2 → RelV ((getX xs k).getD z) w2 → Q w2 s2) : wpAny (model X.prog X.w) A (call (.builtin "dict.get") [.ref a, .ref b, u]) Q E s := by
  obtain ⟨ys, r, d⟩ := D.d
  have d2 : s.heap.DictKeyed (nestedKind X.prog X.w) a (pairsH ys) := ⟨ys, d, rfl⟩
  refine getOr_keyed (room_nk hu) kb D.sys d2 ?_
  rw [valueAt_pairsH]
  exact h _ _ (I.tok _) ((rx_get r).getD rz)
theorem dt_pop {Q : Value → Shared → Prop} {v : V} {more : List Value} (hm : more = [] ∨ ∃ x, more = [x]) (hu : A.units + 10 < cLine) (I : Inv X pins σ H s) (D : DtNow X H s.heap a xs) (kb : (nestedKind X.prog X.w).is s.heap k b) (g : getX xs k = some v)
    (h : ∀ u s2, Inv X pins σ (upd H a (DtO X.w a (dropX xs k))) s2 → DtAt X.w (upd H a (DtO X.w a (dropX xs k))) a (dropX xs k) → RelV v u → Q u s2) : wpAny (model X.prog X.w) A (call (.builtin "dict.pop") (.ref a :: .ref b :: more)) Q E s := by
  obtain ⟨ys, r, d⟩ := D.d
  obtain ⟨u, hu2, ru⟩ := RelO.some_of (v := v) (o := (atKey ys k).map (·.2)) (by rw [← g]; exact rx_get r)
  obtain ⟨p, hp, e⟩ := Option.map_eq_some_iff.mp hu2
  have ha : argsOk "dict.pop" ⟨.ref a :: .ref b :: more, []⟩ := by
    rcases hm with e | ⟨x, e⟩
    · subst e; exact PySem.F.args_dict_pop_2 _ _
    · subst e; exact PySem.F.args_dict_pop_3 _ _ _
  refine call_pop_heap (hsz := by rw [← rx_len r]; exact D.sz) hm ha (room_nk hu) kb D.sys d hp fun h2 d2 hs => ?_
  have r2 := rx_drop (k := k) r
  rw [e]
  exact h _ _ (dt_write I D.mu hs r2 d2) ⟨upd_same, D.sys, DtAt.nodup r2 d2, by have := dropX_len (xs := xs) (k := k); have := D.sz; omega⟩ ru
theorem dt_popD {Q : Value → Shared → Prop} {u : Value} (hu : A.units + 10 < cLine) (I : Inv X pins σ H s) (D : DtNow X H s.heap a xs) (kb : (nestedKind X.prog X.w).is s.heap k b) (g : getX xs k = none)
    (h : ∀ s2, Inv X pins σ H s2 → Q u s2) : wpAny (model X.prog X.w) A (call (.builtin "dict.pop") [.ref a, .ref b, u]) Q E s := by
  obtain ⟨ys, r, d⟩ := D.d
  have e : atKey ys k = none := by
    have q := rx_get (k := k) r
    rw [g] at q
    cases z : atKey ys k with
    | none => rfl
    | some p => rw [z] at q; exact q.elim
  exact call_pop_default_heap (hsz := by rw [← rx_len r]; exact D.sz) (room_nk hu) kb D.sys d e fun tk => h _ (I.tok _)
/-- an empty dict, of either kind, written so -/
theorem dt_empty (I : Inv X pins σ H s) (e : H a = some (.dK [])) : DtNow X H s.heap a [] := by
  obtain ⟨_, hs, vs, r, o, es, ep, ho, hc, hd, h4⟩ := dk_of I.hok e
  cases r
  refine ⟨⟨[], .nil, o, es, ep, ho, hc, hd, ?_, fun x hx => (nomatch hx), .nil⟩, hs, Nat.zero_le _, by rw [e]; exact True.intro⟩
  simp only [List.map_nil]
  have q := h4.2.1
  generalize es.toList = l at q ⊢
  cases q
  rfl
end
end Mn
namespace Mn
open PySem PySem.Spec PyProof.Rows L2
section
variable {X : Cx} {pins : List (Addr × Obj)} {σ : L2.St} {H : Hp} {s : Shared} {a b : Addr} {xs : List XE}
/-- list(d): the keys' own tuples -/
theorem dt_list {Q : VK} (hc : X.calm = true) (I : Inv X pins σ H s) (D : DtAt X.w H a xs) (q : ∀ p, H p = none → Q (.ref p) (upd H p (.lst (xs.map fun x => V.ref x.2.1)))) :
    wpAny (model X.prog X.w) X.A (call (.type "list") [.ref a]) (EP X pins σ Q) X.xe s := by
  obtain ⟨⟨ys, o, es, ep, r, ho, hx, hdt, he⟩, _⟩ := (show ObjOk X.prog X.w H s.heap a (DtO X.w a xs) from I.hok a _ D.on)
  have l1 : es.size = ys.length := by rw [← Array.length_toList, he, List.length_map]
  have l2 := rx_len r
  have hz := D.sz
  refine PySem.W.kdl_call (kdl_raw D.sys hx hdt) (I.ok.hd hc) ho (by omega) fun h2 tk acc c kp e it => ?_
  have ea : acc.toList = ys.map fun x => Value.ref x.2.1 := by
    have hl : acc.toList.length = ys.length := by rw [Array.length_toList, it.1]; exact l1
    apply List.ext_getElem?
    intro j
    rw [List.getElem?_map]
    cases hj : acc.toList[j]? with
    | none =>
      have h1 := List.getElem?_eq_none_iff.mp hj
      rw [List.getElem?_eq_none (by omega)]
      all_goals rfl
    | some v =>
      obtain ⟨en, hen, hv⟩ := it.2 j v (by rw [← Array.getElem?_toList]; exact hj)
      have qe : es[j]? = (ys.map (rawE X.w))[j]? := by rw [← he, Array.getElem?_toList]
      rw [hen, List.getElem?_map] at qe
      cases hb : ys[j]? with
      | none => rw [hb] at qe; exact nomatch (show some en = none from qe)
      | some y =>
        rw [hb] at qe
        have e2 : en = rawE X.w y := Option.some.inj qe
        rw [hv, e2]
        all_goals rfl
  have eb := rx_addrs r
  have ec : (xs.map fun x => V.ref x.2.1) = (xs.map fun x => x.2.1).map V.ref := by rw [List.map_map]; rfl
  have rv : Vals (xs.map fun x => V.ref x.2.1) acc.toList := by
    rw [ec, ea, ← eb, show (ys.map fun x => Value.ref x.2.1) = (ys.map fun x => x.2.1).map Value.ref from by rw [List.map_map]; rfl]
    exact vals_refs _
  refine ⟨.ref s.heap.objs.size, _, I.laid (t' := tk) (o := .lst (xs.map fun x => V.ref x.2.1)) kp (Nat.le_refl _) ?_, rfl, q _ (I.hok.fresh (Nat.le_refl _))⟩
  exact ⟨by rw [List.length_map]; exact hz, acc.toList, c, rv, by rw [Array.toArray_toList]; exact e⟩
theorem dt_len {Q : VK} (I : Inv X pins σ H s) (D : DtNow X H s.heap a xs) (q : Q (.int xs.length) H) : wpAny (model X.prog X.w) X.A (call (.builtin "len") [.ref a]) (EP X pins σ Q) X.xe s := by
  obtain ⟨ys, r, d⟩ := D.d
  have l2 := rx_len r
  have hz := D.sz
  have z : sizeLine = 16777216 := sizeLine_eq
  refine call_len_dictH D.sys d (by omega) ?_
  rw [← l2]
  exact ⟨.int xs.length, H, I.tok _, ⟨_, rfl⟩, q⟩
/-- dict(xs), a list of pairs whose keys are tuples -/
def allX (ps : List XE) : List XE := ps.foldl (fun acc p => putX acc p.1 p.2.1 p.2.2) []
theorem rx_all {ps : List XE} {qs : List YE} (r : RX ps qs) : RX (allX ps) (storedAllH [] qs) := by
  have key : ∀ {ps : List XE} {qs : List YE}, RX ps qs → ∀ {a : List XE} {b : List YE}, RX a b → RX (ps.foldl (fun acc p => putX acc p.1 p.2.1 p.2.2) a) (storedAllH b qs) := by
    intro ps qs r
    induction r with
    | nil => exact fun r => r
    | @cons p q ps qs h _ ih =>
      intro a b r
      obtain ⟨e1, e2, e3⟩ := h
      rw [List.foldl_cons]
      show RX _ (storedAllH (storedH b q.1 q.2.1 q.2.2) qs)
      rw [← e1, ← e2]
      exact ih (rx_put r e3)
  exact key r .nil
theorem dt_pairs {Q : VK} {its : List Addr} {ps : List XE} (hc : X.calm = true) (hu : X.A.units + 11 < cLine) (I : Inv X pins σ H s) (hq : SqL X.K H a (its.map V.ref)) (hp : Paired (fun t p => SqT X.K H t [V.ref p.2.1, p.2.2]) its ps) (hk : KeysIn X.prog X.w s.heap ps)
    (q : ∀ p, H p = none → DtAt X.w (upd H p (DtO X.w p (allX ps))) p (allX ps) → Q (.ref p) (upd H p (DtO X.w p (allX ps)))) : wpAny (model X.prog X.w) X.A (call (.type "dict") [.ref a]) (EP X pins σ Q) X.xe s := by
  obtain ⟨vs, rv, pl, hz⟩ := I.list hq
  have ei := refs_at rv
  subst ei
  rw [List.length_map] at hz
  have key : ∀ {its : List Addr} {ps : List XE}, Paired (fun t p => SqT X.K H t [V.ref p.2.1, p.2.2]) its ps → ∃ qs : List YE, RX ps qs ∧ its.length = qs.length ∧ ∀ (j : Nat) (y : YE), qs[j]? = some y → ∃ t, its[j]? = some t ∧ s.heap.IsTuple t #[.ref y.2.1, y.2.2] := by
    intro its ps h
    induction h with
    | nil => exact ⟨[], .nil, rfl, fun j y e => by simp at e⟩
    | @cons t p its ps h _ ih =>
      obtain ⟨qs, r, hl, hj⟩ := ih
      obtain ⟨us, rv, ht, _⟩ := I.tuple h
      obtain ⟨u, y, e, ru, ry⟩ := vals2 rv
      subst e
      obtain rfl : u = Value.ref p.2.1 := ru
      refine ⟨(p.1, p.2.1, y) :: qs, .cons ⟨rfl, rfl, ry⟩ r, by rw [List.length_cons, List.length_cons, hl], fun j z e => ?_⟩
      cases j with
      | zero =>
        have e2 : (p.1, p.2.1, y) = z := Option.some.inj e
        subst e2
        exact ⟨t, rfl, ht⟩
      | succ j =>
        obtain ⟨t2, e1, e2⟩ := hj j z (by simpa using e)
        exact ⟨t2, by simpa using e1, e2⟩
  obtain ⟨qs, r, hl, hj⟩ := key hp
  obtain ⟨o, n, ho, hcl, hd, hdat⟩ := pl
  have P := PairArg.list (prog := X.prog) (w := X.w) a (its.map Value.ref).toArray (fun j => its.getD j 0) (qs.map fun y => (Value.ref y.2.1, y.2.2))
  have l1 : (qs.map fun y => (Value.ref y.2.1, y.2.2)).length = its.length := by rw [List.length_map, hl]
  refine call_dict_pairsH (knd := nestedKind X.prog X.w) (ps := qs) P (I.ok.hd hc) ?_ ⟨⟨o, n, ho, hcl, hd, hdat⟩, ?_, fun j k v e => ?_⟩ ⟨?_, fun j k v e => ?_⟩ (fun h2 hk2 y hy => ?_) (by rw [l1]; exact hz) fun h2 tk d2 kp => ?_
  · have : X.A.in1.in1.units = X.A.units + 2 := rfl
    show X.A.in1.in1.units + 8 < cLine
    omega
  · rw [l1]; simp
  · rw [List.getElem?_map] at e
    cases hy : qs[j]? with
    | none => rw [hy] at e; exact nomatch (show none = some (k, v) from e)
    | some y =>
      rw [hy] at e
      have e2 : (Value.ref y.2.1, y.2.2) = (k, v) := Option.some.inj e
      cases e2
      obtain ⟨t, e3, e4⟩ := hj j y hy
      have e5 : its.getD j 0 = t := by rw [List.getD_eq_getElem?_getD, e3]; rfl
      exact ⟨by rw [List.getElem?_toArray, List.getElem?_map, e3]; exact congrArg (fun z => some (Value.ref z)) e5.symm, .inl (by show s.heap.IsTuple (its.getD j 0) _; rw [e5]; exact e4)⟩
  · rw [List.length_map]
  · have e : (qs.map fun y => (Value.ref y.2.1, y.2.2))[j]? = some (k, v) := e
    rw [List.getElem?_map] at e
    cases hy : qs[j]? with
    | none => rw [hy] at e; exact nomatch (show none = some (k, v) from e)
    | some y =>
      rw [hy] at e
      have e2 : (Value.ref y.2.1, y.2.2) = (k, v) := Option.some.inj e
      cases e2
      exact ⟨y.1, y.2.1, rfl, rfl⟩
  · obtain ⟨x, hx, e1, e2⟩ := rx_mem r y hy
    rw [← e1, ← e2]
    exact nestedKind_stays.stays (fun c ob vs m e4 e5 => hk2 c ob (fun z => by subst z; exact absurd (Heap.lt_size e4) (Nat.lt_irrefl _)) (fun q => nomatch q) e4) (hk x hx)
  · have kp2 : ∀ c ob, s.heap.get? c = some ob → h2.get? c = some ob := fun c ob e => kp c ob (fun z => nomatch z) e
    have r2 := rx_all r
    have len : (allX ps).length ≤ sizeLine := by
      rw [rx_len r2]
      have := storedAllH_length qs ([] : List YE)
      rw [List.length_nil, Nat.zero_add] at this
      omega
    have hs : (s.heap.objs.size == sysModules) = false := beq_eq_false_iff_ne.mpr (Nat.ne_of_gt I.big)
    exact ⟨.ref s.heap.objs.size, _, I.laid (t' := tk) kp2 (Nat.le_refl _) (dt_ok r2 d2), rfl, q _ (I.hok.fresh (Nat.le_refl _)) ⟨upd_same, hs, DtAt.nodup r2 d2, len⟩⟩
end
end Mn
end

section
set_option Elab.async false
set_option linter.all false
set_option maxRecDepth 100000
set_option maxHeartbeats 4000000
namespace Mn
open PySem PySem.Spec PyProof.Rows
/-- the unlike ones of the first i -/
def unl {κ : Type} [DecidableEq κ] (f : Nat → κ) : Nat → List κ
  | 0 => []
  | i + 1 => if f i ∈ unl f i then unl f i else unl f i ++ [f i]
theorem unl_le {κ : Type} [DecidableEq κ] (f : Nat → κ) : ∀ i, (unl f i).length ≤ i
  | 0 => Nat.le_refl _
  | i + 1 => by
    have := unl_le f i
    unfold unl
    split
    · omega
    · rw [List.length_append, List.length_singleton]; omega
section
variable {prog : Program} {w : World} {κ : Type} [DecidableEq κ] (kd : KeyKind prog w κ)
theorem unl_set {h : Heap} {a : Addr} {f : Nat → κ} {i : Nat} (x : h.SetOf kd a (fun y => decide (y ∈ unl f i) || decide (y = f i)) (if decide (f i ∈ unl f i) = true then (unl f i).length else (unl f i).length + 1)) :
    h.SetOf kd a (fun y => decide (y ∈ unl f (i + 1))) (unl f (i + 1)).length := by
  have e1 : (fun y => decide (y ∈ unl f i) || decide (y = f i)) = fun y => decide (y ∈ unl f (i + 1)) := by
    funext y
    show _ = decide (y ∈ if f i ∈ unl f i then unl f i else unl f i ++ [f i])
    by_cases c : f i ∈ unl f i
    · rw [if_pos c]
      by_cases e : y = f i
      · subst e; simp [c]
      · simp [e]
    · rw [if_neg c]; simp [Bool.decide_or]
  have e2 : (if decide (f i ∈ unl f i) = true then (unl f i).length else (unl f i).length + 1) = (unl f (i + 1)).length := by
    show _ = (if f i ∈ unl f i then unl f i else unl f i ++ [f i]).length
    by_cases c : f i ∈ unl f i
    · rw [if_pos c, if_pos (by simpa using c)]
    · rw [if_neg c, if_neg (by simpa using c)]; simp
  rw [e1, e2] at x
  exact x
variable {A : Around} {R : Result → Shared → Prop} {it : Addr} {fp wr : List Addr} {G : Array GenState → Array GenState → Prop} {n : Nat} {Pv : Nat → Value → Prop} {St : Nat → Shared → Prop}
theorem set_loop (W : WalksS prog w A.in1 it fp wr G n Pv St) (a : Addr) (off : a ∉ fp) (f : Nat → κ) (hv : ∀ i v, Pv i v → kd.is (f i) v = true ∧ v.scannable = true) (hb : n + 1 < scanBound) :
    ∀ (left i : Nat) (s : Shared), n - i = left → i ≤ n → St i s → s.heap.SetOf kd a (fun y => decide (y ∈ unl f i)) (unl f i).length →
      (∀ z, Moved (a :: wr) G s z → z.heap.SetOf kd a (fun y => decide (y ∈ unl f n)) (unl f n).length → R (.ok (.ret .none)) z) →
      codeAny (model prog w) A (.builtin "set.update.loop" ⟨[.ref a, .ref it], []⟩) R s := by
  have offw : a ∉ wr := fun h => off (W.sub _ h)
  intro left
  induction left with
  | zero =>
    intro i s hk hi st hS hR
    obtain rfl : i = n := by omega
    apply codeAny_builtin PyProof.Rows.F.entry_set_update_loop
    rw [Around.under_plainId PyProof.Rows.F.plain_set_update_loop _]
    show wpAny _ A.in1 (pyNext (.ref it) >>= _) _ _ s
    apply wpAny_bind
    apply W.done s _ _ st
    intro z hm
    show wpAny _ A.in1 (ret Value.none) _ _ z
    obtain ⟨o, es, ep, t, ho, more⟩ := hS
    exact wpAny_pure (hR z (hm.mono fun b hb => List.mem_cons_of_mem _ hb) ⟨o, es, ep, t, hm.heap a _ offw ho, more⟩)
  | succ left ih =>
    intro i s hk hi st hS hR
    have lt : i < n := by omega
    apply codeAny_builtin PyProof.Rows.F.entry_set_update_loop
    rw [Around.under_plainId PyProof.Rows.F.plain_set_update_loop _]
    show wpAny _ A.in1 (pyNext (.ref it) >>= _) _ _ s
    apply wpAny_bind
    apply W.item i s _ _ lt st
    intro v z hP st2 hm
    obtain ⟨k1, k2⟩ := hv i v hP
    have hS2 : z.heap.SetOf kd a (fun y => decide (y ∈ unl f i)) (unl f i).length := by
      obtain ⟨o, es, ep, t, ho, more⟩ := hS
      exact ⟨o, es, ep, t, hm.heap a _ offw ho, more⟩
    show wpAny _ A.in1 (holding [v] (setAdd a v) >>= _) _ _ z
    apply wpAny_bind
    apply wpAny_holding
    unfold setAdd
    apply wpAny_holding
    apply wpAny_bind
    apply kd.pyHash k1
    have room : (unl f i).length + 1 < scanBound := by have := unl_le f i; omega
    refine wpAny_setAddHashed_of (knd := kd) (s := { z with toks := z.toks + 1 }) k1 k2 hS2 room fun h2 sb hS3 => ?_
    refine wpAny_pure ⟨plainId_quiet PyProof.Rows.F.plain_set_update_loop _, ih (i + 1) _ (by omega) lt (W.frame _ z _ _ st2 (Nat.le_succ _) fun b hb o e => ?_) (unl_set kd hS3) fun y hm2 hS4 => ?_⟩
    · rw [sb.2 b fun q => off (q ▸ hb)]
      exact e
    · apply hR y _ hS4
      apply Moved.trans W.gtrans _ hm2
      apply (hm.mono fun b hb => List.mem_cons_of_mem _ hb).then_heap (Nat.le_succ _)
      intro b o hb e
      rw [sb.2 b fun q => hb (q ▸ List.mem_cons_self)]
      exact e
end
section
variable {prog : Program} {w : World} {κ : Type} [DecidableEq κ] (kd : KeyKind prog w κ) {A : Around} {E : Value → Shared → Prop} {s : Shared}
def newSet (led : Bool) : Obj := { cls := .type "set", dict := none, data := .set #[] 0 (.fresh 0 0 led) }
theorem call_setK {l : Addr} {its : Array Value} (f : Nat → κ) {Q : Value → Shared → Prop} (hh : A.handled = none) (hl : s.heap.IsList l its) (hv : ∀ i v, its[i]? = some v → kd.is (f i) v = true ∧ v.scannable = true) (hb : its.size + 1 < scanBound)
    (h : ∀ h2 tk, h2.SetOf kd s.heap.objs.size (fun y => decide (y ∈ unl f its.size)) (unl f its.size).length → (∀ b o, b < s.heap.objs.size → s.heap.get? b = some o → h2.get? b = some o) → Q (.ref s.heap.objs.size) { s with heap := h2, toks := tk }) :
    wpAny (model prog w) A (call (.type "set") [.ref l]) Q E s := by
  obtain ⟨c, tl, hmro⟩ := PySem.F.called_set.mro
  have hmade := PySem.F.called_set.made
  have hsub := PySem.F.called_set.sub
  apply wpAny_call
  apply codeAny_of_tree
  show wpAny _ _ (callAny (.type "set") _) _ _ _
  refine wpAny_pure ⟨Code.quiet_builtin _ (by decide +kernel), ?_⟩
  apply codeAny_builtin PySem.F.entry_type_call
  rw [Around.under_plain (weight_type_call_type "set" [.ref l] []) rfl]
  have h1 := PySem.F.called_set.notType
  have h2 := PySem.F.called_set.canCreate
  have hct := PySem.F.typeCall_set_1 (.ref l)
  repeat (any_goals (first | assumption | wp_step))
  refine codeAny_mono (code_set_new_1 (.ref l) (E := E) (Q₁ := fun ob z => ∃ led : Bool, ob = .ref s.heap.objs.size ∧ z = { s with heap := s.heap.push (newSet led) }) fun led => ⟨led, rfl, rfl⟩) fun r z hr => ?_
  cases r with
  | error e => exact hr
  | ok fl =>
    cases fl with
    | ret ob =>
      obtain ⟨led, rfl, rfl⟩ := hr
      have hS : (s.heap.push (newSet led)).get? s.heap.objs.size = some (newSet led) := Heap.get?_push_size _ rfl
      have hT : Shared.TypeIs { s with heap := s.heap.push (newSet led) } (.ref s.heap.objs.size) "set" := ⟨_, hS, rfl⟩
      have hli := PySem.F.called_set.init.lookup
      have hbi := PySem.F.called_set.init.bind (.ref s.heap.objs.size)
      repeat (any_goals (first | assumption | wp_step))
      refine codeAny_mono (codeAny_call_builtin (R := wants (fun r y => r = .none ∧ ∃ h2 tk, y = { s with heap := h2, toks := tk } ∧ h2.SetOf kd s.heap.objs.size (fun y => decide (y ∈ unl f its.size)) (unl f its.size).length ∧
          (∀ b o, b < s.heap.objs.size → s.heap.get? b = some o → h2.get? b = some o)) E) PySem.F.called_set.init.plain PySem.F.entry_set_init (check_set_init_1 hT ?_)) fun r2 y hr2 => ?_
      · obtain ⟨⟨ocls, odict, odata, oslots⟩, hol, hcl, nl, hdl⟩ := hl
        simp only at hcl hdl
        subst hcl
        subst hdl
        have hol2 : (s.heap.push (newSet led)).get? l = some { cls := .type "list", dict := odict, data := .seq its nl, slots := oslots } := Heap.get?_push_of_some _ hol
        have hsls := PySem.F.sub_list_set
        have hslf := PySem.F.sub_list_frozenset
        have hne : (Value.type "list" == Value.type "dict") = false := by decide
        have hl1 : (s.heap.push (newSet led)).IsList l its := ⟨_, hol2, rfl, nl, rfl⟩
        unfold Builtin.«set.__init__» noKeywords Builtin.Frozenset.updateFrom
        generalize hPI : pyIter = PI
        wp_walk
        subst hPI
        apply wpAny_pyIter_list hl1
        apply wpAny_bind
        apply wpAny_runValue
        have hlS : l < s.heap.objs.size := Heap.lt_size hol
        have sz : (s.heap.push (newSet led)).objs.size = s.heap.objs.size + 1 := Heap.size_push ..
        have hh3 : A.in1.in1.in1.handled = none := by simp [hh]
        have hneI : l ≠ (s.heap.push (newSet led)).objs.size := by rw [sz]; exact Nat.ne_of_lt (Nat.lt_succ_of_lt hlS)
        have hSf : s.heap.objs.size ∉ [(s.heap.push (newSet led)).objs.size, l] := by
          rw [sz]
          simp only [List.mem_cons, List.not_mem_nil, or_false, not_or]
          exact ⟨Nat.ne_of_lt (Nat.lt_succ_self _), Nat.ne_of_gt hlS⟩
        refine set_loop kd ((Walks.list hh3 _ l hneI its).toS) s.heap.objs.size hSf f hv hb (its.size - 0) 0 _ (by omega) (Nat.zero_le _) ⟨⟨_, Heap.get?_push_size _ rfl, rfl, rfl⟩, (hl1.push _)⟩ ?hS0 ?hR
        case hS0 =>
          have hget : ((s.heap.push (newSet led)).push { cls := .type "list_iterator", data := .fields #[.ref l, .int 0 0] }).get? s.heap.objs.size = some (newSet led) := Heap.get?_push_of_some _ hS
          have z := (PyProof.Rows.setObjOf_fresh (knd := kd) led).setOf hget (by unfold scanBound; omega)
          have e : (fun y => decide (y ∈ unl f 0)) = fun _ => false := by funext y; simp [unl]
          rw [e]
          exact z
        case hR =>
          intro z hm hS2
          obtain ⟨h2, g2, d2, tk2, os2⟩ := z
          have eg : g2 = s.gens := hm.gens
          have ed : d2 = s.drawn := hm.drawn
          have eo : os2 = s.os := hm.os
          subst eg
          subst ed
          subst eo
          show wpAny _ _ _ _ _ _
          apply wpAny_pure
          show wpAny _ _ (ret Value.none) _ _ _
          refine wpAny_pure ⟨rfl, h2, tk2, rfl, hS2, fun b o hb e => ?_⟩
          apply hm.heap b o _ (Heap.get?_push_of_some _ (Heap.get?_push_of_some _ e))
          rw [sz]
          simp only [List.mem_cons, List.not_mem_nil, or_false, not_or]
          exact ⟨Nat.ne_of_lt hb, Nat.ne_of_lt (Nat.lt_succ_of_lt hb)⟩
      · cases r2 with
        | error e => exact hr2
        | ok fl2 =>
          cases fl2 with
          | ret r =>
            obtain ⟨rfl, h2, tk, rfl, hS2, hk2⟩ := hr2
            repeat (any_goals (first | assumption | wp_step))
            exact h _ _ hS2 hk2
          | _ => exact hr2.elim
    | _ => exact hr.elim
end
end Mn
end

section
set_option Elab.async false
set_option linter.all false
set_option maxRecDepth 100000
set_option maxHeartbeats 4000000
namespace Mn
open PySem PySem.Spec PyProof.Rows
open L2
theorem scan_key {P : Program} {w : World} {k : L2.Key} {u : Value} (r : RelV (kV k) u) : (mixKind P w).is k u = true ∧ u.scannable = true := ⟨kV_is r, by
  cases k with
  | inl i => obtain ⟨t, rfl⟩ := r; rfl
  | inr x => obtain ⟨t, rfl⟩ := r; rfl⟩
/-- len(set(xs)), a list of ints and texts -/
def tLenK (K : PySem.W.Frag) (ta : TE) : TE := fun σ H Q => ta σ H fun x H1 => ∃ (l : Addr) (ks : List L2.Key), x = .ref l ∧ SqL K H1 l (ks.map kV) ∧ ks.length ≤ 4000 ∧ Q (.int ((unl (fun i => ks.getD i (.inl 0)) ks.length).length : Nat)) H1
theorem pe_lenK {X : Cx} {a : Expr} {ta : TE} {p p2 q pos : Pos} (hg : Gl X "len") (hm : X.mg "len" = none) (hg2 : Gl X "set") (hm2 : X.mg "set" = none) (ha : PE X a ta) (hc : X.calm = true)
    (na : starEach [a] X.env = (false, eval a X.env) :: starEach [] X.env) : PE X (.Call (.Name "len" p) [.Call (.Name "set" p2) [a] [] q] [] pos) (tLenK X.K ta) := by
  constructor
  intro pins s σ H Q I h
  refine Call_ ?_
  apply ld_blt I hg hm boot_len
  apply PyProof.Rows.callWith_builtin1 (PyProof.Rows.args_cons _ rfl) rfl rfl
  refine Call_ ?_
  apply ld_blt I hg2 hm2 boot_set
  refine PyProof.Rows.callWith_type1 (PyProof.Rows.args_cons (thn (ha.run pins s σ H _ I h) fun v s1 ⟨x, H1, I1, r1, l, ks, ex, hq, hl, q1⟩ => PyProof.Rows.args_nil ?_) na) na rfl
  subst ex
  cases r1
  obtain ⟨its, r, pl, hz⟩ := I1.list hq
  have hlen : its.toArray.size = ks.length := by rw [List.size_toArray, ← r.length, List.length_map]
  refine call_setK (mixKind X.prog X.w) (fun i => ks.getD i (.inl 0)) (I1.ok.hd hc) pl.isList (fun i v hv => ?_) (by rw [hlen]; unfold scanBound; omega) fun h2 tk hS hk => ?_
  · have hv2 : its[i]? = some v := by simpa using hv
    have hi : i < its.length := (List.getElem?_eq_some_iff.mp hv2).1
    rw [List.size_toArray] at hlen
    have hk : ks[i]? = some (ks.getD i (.inl 0)) := by rw [List.getD_eq_getElem?_getD, List.getElem?_eq_getElem (by omega)]; rfl
    obtain ⟨u, h1, h2⟩ := r.get (i := i) (x := kV (ks.getD i (.inl 0))) (by rw [List.getElem?_map, hk]; rfl)
    rw [hv2] at h1
    cases h1
    exact scan_key h2
  · apply PyProof.Rows.args_nil
    rw [hlen] at hS
    obtain ⟨o, es, ep, t, ho, hex, hd, _, _, _, hf, hn⟩ := hS
    have I2 : Inv X pins σ H1 { s1 with heap := h2, toks := tk } := I1.kept fun b o e => hk b o (Heap.lt_size e) e
    have le := unl_le (fun i => ks.getD i (.inl 0)) ks.length
    exact call_len_set ho hex hd hf (by rw [hn]; omega) ⟨.int ((unl (fun i => ks.getD i (.inl 0)) ks.length).length : Nat), H1, I2.tok _, ⟨_, by rw [hn]⟩, q1⟩
end Mn
end

section
set_option Elab.async false
set_option linter.all false
set_option maxRecDepth 100000
set_option maxHeartbeats 4000000
namespace Mn
open PySem PySem.Spec PyProof.Rows L2
/-- a new tuple -/
def NewT (H : Hp) (vs : List V) (Q : VK) : Prop := ∀ (p : Addr) (o : Obj), H p = none → o.dict = none → Q (.ref p) (upd H p (.frz o (.tup vs)))
section
variable {X : Cx} {pins : List (Addr × Obj)} {σ : L2.St} {H : Hp} {s : Shared} {vs : List V} {its : List Value}
theorem solid_obj {P : Program} {w : World} {G : Hp} {h : Heap} {a : Addr} {o : Obj} {n : Nat} (e : h.get? a = some o) (hc : o.cls = .type "tuple") (hd : o.data = .seq its.toArray n) (rv : Vals vs its) (hz : vs.length ≤ sizeLine) : ObjOk P w G h a (.frz o (.tup vs)) :=
  ⟨e, hz, its, rv, o, e, hc, n, hd⟩
theorem new_tup {Q : VK} (I : Inv X pins σ H s) (rv : Vals vs its) (hz : vs.length ≤ sizeLine) (q : NewT H vs Q) : EP X pins σ Q (.ref s.heap.objs.size) { s with heap := s.heap.push { cls := .type "tuple", data := .seq its.toArray } } :=
  ⟨.ref s.heap.objs.size, upd H s.heap.objs.size (.frz { cls := .type "tuple", data := .seq its.toArray } (.tup vs)), I.laid (t' := s.toks) (fun b u e => Heap.get?_push_of_some _ e) (Nat.le_refl _) (solid_obj (Heap.get?_push_size _ rfl) rfl rfl rv hz), rfl, q _ _ (I.hok.fresh (Nat.le_refl _)) rfl⟩
def tTupZ (t : TA) : TE := fun σ H Q => t σ H fun xs H1 => xs.length ≤ sizeLine ∧ NewT H1 xs Q
theorem pe_tupZ {es : List Expr} {t : TA} {pos : Pos} {k : Nat} (h : PA X es t) : PE X (.Tuple es k pos) (tTupZ t) := by
  constructor
  intro pins s σ H Q I hq
  exact wpAny_Tuple_spliced (thn (h.run pos pins s σ H _ I hq) fun us s1 ⟨xs, H1, I1, r, z, q⟩ => ⟨by rw [← r.length]; exact z, new_tup I1 r z q⟩)
/-- t + u -/
def rCatZ (K : PySem.W.Frag) : R2 := fun x y H Q => ∃ a b xs ys, x = .ref a ∧ y = .ref b ∧ SqT K H a xs ∧ SqT K H b ys ∧ xs.length + ys.length ≤ sizeLine ∧
  (xs = [] → Q (.ref b) H) ∧ (xs ≠ [] → ys = [] → Q (.ref a) H) ∧ (xs ≠ [] → ys ≠ [] → NewT H (xs ++ ys) Q)
theorem op_catZ : OpR X (binaryOp .Add) (rCatZ X.K) := by
  intro pins s σ H x y v u Q I rx ry h
  obtain ⟨a, b, xs, ys, rfl, rfl, ha, hb, hz, q0, q1, q2⟩ := h
  cases rx
  cases ry
  obtain ⟨its, r1, p1, _⟩ := I.tuple ha
  obtain ⟨its2, r2, p2, _⟩ := I.tuple hb
  by_cases hx : xs = []
  · subst hx
    cases r1
    exact cat_tup0 p1 p2 ⟨.ref b, H, I, rfl, q0 rfl⟩
  · refine HT.cat_tup p1 p2 (fun z => hx (r1.nil_iff.mp z)) (fun z => ⟨.ref a, H, I, rfl, q1 hx (r2.nil_iff.mp z)⟩) (fun z => ?_) (by rw [← r1.length, ← r2.length]; exact hz)
    exact new_tup I (r1.append r2) (by rw [List.length_append]; exact hz) (q2 hx fun w => z (r2.nil_iff.mpr w))
/-- t[lo:hi] -/
def rSlZ (K : PySem.W.Frag) : V → Option Int → Option Int → Hp → VK → Prop := fun x lo hi H Q => ∃ a xs, x = .ref a ∧ SqT K H a xs ∧
  (HT.sIx xs.length 0 lo = 0 ∧ HT.sIx xs.length xs.length hi = xs.length → Q (.ref a) H) ∧ (¬ (HT.sIx xs.length 0 lo = 0 ∧ HT.sIx xs.length xs.length hi = xs.length) → NewT H (cutV xs lo hi) Q)
theorem sl_tupZ : SlR X (rSlZ X.K) := by
  intro pins s σ H x v vl vu lo hi sl Q I rx hs pl pu h
  obtain ⟨a, xs, rfl, hx, q1, q2⟩ := h
  cases rx
  obtain ⟨its, r, ht, hz⟩ := I.tuple hx
  have hlen : its.toArray.size = xs.length := by rw [List.size_toArray]; exact r.length.symm
  refine ⟨"tuple", _, PyProof.Rows.slot_tuple_getitem.lookup, ht.typeIs, ?_⟩
  by_cases hw : HT.sIx xs.length 0 lo = 0 ∧ HT.sIx xs.length xs.length hi = xs.length
  · exact getItem_tuple_whole ht hs pl pu (by rw [hlen]; exact hw) ⟨.ref a, H, I, rfl, q1 hw⟩
  · refine HT.getItem_tuple_cut ht hs pl pu (by rw [hlen]; exact hw) ?_ (by rw [hlen]; exact hz)
    rw [hlen]
    exact new_tup I ((r.drop (HT.sIx xs.length 0 lo)).take (HT.sIx xs.length xs.length hi - HT.sIx xs.length 0 lo)) (Nat.le_trans (cutV_length xs lo hi) hz) (q2 hw)
/-- tuple(x) -/
theorem call_tupleZ : CallR X (.type "tuple") (fun xs H Q => ∃ p ys, xs = [.ref p] ∧ ((SqL X.K H p ys ∧ NewT H ys Q) ∨ (SqT X.K H p ys ∧ Q (.ref p) H))) := by
  intro pins s σ H xs us Q I r h
  obtain ⟨p, ys, rfl, h⟩ := h
  obtain ⟨u, rfl, rx⟩ := vals1 r
  cases rx
  rcases h with ⟨hq, q⟩ | ⟨hq, q⟩
  · obtain ⟨its, r2, pl, hz⟩ := I.list hq
    have hlen := r2.length
    refine call_tuple_list pl.isList (fun h2 kp => ?_) (by simp only [List.size_toArray] <;> omega)
    have I1 : Inv X pins σ H { s with heap := h2 } := I.kept (t' := s.toks) kp
    exact new_tup I1 r2 hz q
  · obtain ⟨its, r2, pl, hz⟩ := I.tuple hq
    exact call_tuple_same pl ⟨.ref p, H, I, rfl, q⟩
/-- t * k -/
def rRepZ (K : PySem.W.Frag) : R2 := fun x y H Q => ∃ l k xs, x = .ref l ∧ y = .int k ∧ SqT K H l xs ∧ xs ≠ [] ∧ 2 ≤ k ∧ k ≤ 1000 ∧ xs.length ≤ 1000 ∧ NewT H (List.replicate k.toNat xs).flatten Q
theorem op_repZ : OpR X (binaryOp .Mult) (rRepZ X.K) := by
  intro pins s σ H x y v u Q I rx ry h
  obtain ⟨l, k, xs, rfl, rfl, hT, hne, h1, h2, hz, q⟩ := h
  cases rx
  obtain ⟨t, rfl⟩ := ry
  obtain ⟨its, r, ⟨⟨cls, dd, data, sl⟩, ho, hc, n, hd⟩, hs⟩ := I.tuple hT
  simp only at hc hd
  subst hc hd
  have hle : its.length = xs.length := r.length.symm
  have hn : its ≠ [] := fun e => hne (List.eq_nil_of_length_eq_zero (by rw [← hle, e]; rfl))
  have hi : its.toArray.isEmpty = false := by
    cases its with
    | nil => exact absurd rfl hn
    | cons a b => rfl
  have hs2 : its.toArray.size = xs.length := by rw [List.size_toArray, hle]
  have hm : ((its.toArray.size : Nat) : Int) * k ≤ 1000000 := by
    rw [hs2]
    have a1 : ((xs.length : Nat) : Int) * k ≤ 1000 * k := Int.mul_le_mul_of_nonneg_right (by omega) (by omega)
    omega
  have bound : k.toNat * xs.length ≤ 1000 * 1000 := Nat.mul_le_mul (by omega) hz
  have flen : (List.replicate k.toNat its).flatten.length ≤ sizeLine := by
    rw [PyProof.Rows.lm_len_rep_flat, hle, sizeLine_eq]
    omega
  refine wpAny_binaryOp_repeat_ref (T := "tuple") (U := "int") (by decide) ⟨_, ho, rfl⟩ (fun s' => typeIs_int s' k t) noFill_tuple_mul F.fills_int_mul F.slot_int_rmul repeat_tuple F.slot_int_index.lookup
    (call_meets F.slot_int_rmul (typeIs_int s k t) F.entry_int_rmul (F.args_int_rmul_2 _ _) (int_rmul_tuple k t l its.toArray n dd sl)
      ⟨ho, rfl, ⟨_, ho, rfl⟩, call_meets F.slot_tuple_mul ⟨_, ho, rfl⟩ F.entry_tuple_mul (F.args_tuple_mul_2 _ _) (tuple_mulW l its.toArray n dd sl k t ?_ ?_ ?_ (by omega) ?_ (by rw [size_rep, List.size_toArray]; exact flen)) ⟨ho, ?_⟩⟩)
  · rw [decide_eq_false (by omega), decide_eq_false (by omega)]
    rfl
  · rw [hi, Bool.false_or]
    exact beq_eq_false_iff_ne.mpr (by omega)
  · rw [hi, Bool.or_false]
    exact decide_eq_false (by omega)
  · unfold Builtin.Tuple.tupleTooMany
    rw [sizeLine_eq]
    exact decide_eq_false (by omega)
  · rw [size_rep]
    exact new_tup I (r.rep k.toNat) (by rw [PyProof.Rows.lm_len_rep_flat, sizeLine_eq]; omega) q
/-- t * 0 -/
theorem tuple_mul0 (l : Addr) (items : Array Value) (n : Nat) (dd : Option Addr) (sl : Array (Option Value)) (x : Int) (u : Tok) (c0 : (decide (x < -(2 ^ 63)) || decide (x ≥ 2 ^ 63)) = false) (c1 : (items.isEmpty || x == 1) = false) (c2 : (decide (x ≤ 0) || items.isEmpty) = true) :
    Meets (Builtin.«tuple.__mul__» ⟨[.ref l, .int x u], []⟩) (fun _ R s => s.heap.get? l = some { cls := .type "tuple", dict := dd, data := .seq items n, slots := sl } ∧
      R (.ok (.ret (Value.ref s.heap.objs.size))) { s with heap := s.heap.push { cls := Value.type "tuple", data := Data.seq #[] }, toks := s.toks }) :=
  .of_wp fun prog w A R s h => by
    obtain ⟨hp, g, d, tk, os⟩ := s
    obtain ⟨hl, h⟩ := h
    have f1 := AutoSeq1.idx_int
    wp_walk using wpAny_loadPart' hl
    repeat (first
      | (refine wpAny_ite_false (decide_eq_false (by rw [c0]; exact Bool.false_ne_true)) ?_; wp_walk using wpAny_loadPart' hl)
      | (refine wpAny_ite_false (decide_eq_false (by rw [c1]; exact Bool.false_ne_true)) ?_; wp_walk using wpAny_loadPart' hl)
      | (refine wpAny_ite_true (decide_eq_true c2) ?_; wp_walk using wpAny_loadPart' hl))
    exact ⟨_, rfl, h⟩
def rRepZ0 (K : PySem.W.Frag) : R2 := fun x y H Q => ∃ l k xs, x = .ref l ∧ y = .int k ∧ SqT K H l xs ∧ xs ≠ [] ∧ -1000 ≤ k ∧ k ≤ 0 ∧ NewT H [] Q
theorem op_repZ0 : OpR X (binaryOp .Mult) (rRepZ0 X.K) := by
  intro pins s σ H x y v u Q I rx ry h
  obtain ⟨l, k, xs, rfl, rfl, hT, hne, h1, h2, q⟩ := h
  cases rx
  obtain ⟨t, rfl⟩ := ry
  obtain ⟨its, r, ⟨⟨cls, dd, data, sl⟩, ho, hc, n, hd⟩, hs⟩ := I.tuple hT
  simp only at hc hd
  subst hc hd
  have hle : its.length = xs.length := r.length.symm
  have hn : its ≠ [] := fun e => hne (List.eq_nil_of_length_eq_zero (by rw [← hle, e]; rfl))
  have hi : its.toArray.isEmpty = false := by
    cases its with
    | nil => exact absurd rfl hn
    | cons a b => rfl
  refine wpAny_binaryOp_repeat_ref (T := "tuple") (U := "int") (by decide) ⟨_, ho, rfl⟩ (fun s' => typeIs_int s' k t) noFill_tuple_mul F.fills_int_mul F.slot_int_rmul repeat_tuple F.slot_int_index.lookup
    (call_meets F.slot_int_rmul (typeIs_int s k t) F.entry_int_rmul (F.args_int_rmul_2 _ _) (int_rmul_tuple k t l its.toArray n dd sl)
      ⟨ho, rfl, ⟨_, ho, rfl⟩, call_meets F.slot_tuple_mul ⟨_, ho, rfl⟩ F.entry_tuple_mul (F.args_tuple_mul_2 _ _) (tuple_mul0 l its.toArray n dd sl k t ?_ ?_ ?_) ⟨ho, ?_⟩⟩)
  · rw [decide_eq_false (by omega), decide_eq_false (by omega)]
    rfl
  · rw [hi, Bool.false_or]
    exact beq_eq_false_iff_ne.mpr (by omega)
  · rw [decide_eq_true (by omega)]
    rfl
  · exact new_tup (its := []) I .nil (Nat.zero_le _) q
end
def Sc.fp (it : Addr) : Sc → List Addr
  | .lst a => [it, a]
  | .tup a => [it, a]
  | .txt _ => [it]
section
variable {h h2 : Heap} {it : Addr} {i : Nat} {A : Sc}
theorem Sc.on_at (z : A.on h it i) (e : ∀ o, h.get? it = some o → h2.get? it = some o) : A.on h2 it i := by
  cases A with
  | lst a => exact Heap.IsListIter.at z e
  | tup a => exact Heap.IsTupleIter.at z e
  | txt y => obtain ⟨t, o, ho, r⟩ := z; exact ⟨t, o, e _ ho, r⟩
theorem Sc.on_obj (z : A.on h it i) : ∃ o, h.get? it = some o ∧ ∀ v, o.data ≠ .cell v := by
  cases A with
  | lst a => obtain ⟨o, ho, _, d⟩ := z; exact ⟨o, ho, fun v y => by rw [d] at y; cases y⟩
  | tup a => obtain ⟨o, ho, _, d⟩ := z; exact ⟨o, ho, fun v y => by rw [d] at y; cases y⟩
  | txt y => obtain ⟨t, o, ho, _, d⟩ := z; exact ⟨o, ho, fun v y => by rw [d] at y; cases y⟩
theorem Sc.fp_it : it ∈ A.fp it := by cases A <;> simp [Sc.fp]
variable {X : Cx} {pins : List (Addr × Obj)} {σ : L2.St} {H : Hp} {s : Shared} {xs ys : List V}
theorem Sc.inj (I : Inv X pins σ H s) (h1 : A.has X.K H xs) (h2 : A.has X.K H ys) : xs = ys := by
  cases A with
  | lst a => exact I.list_inj h1 h2
  | tup a => exact I.tuple_inj h1 h2
  | txt z => exact (show xs = _ from h1).trans (show ys = _ from h2).symm
theorem Sc.draws (hh : X.A.handled = none) (I : Inv X pins σ H s) (hq : A.has X.K H xs) (ho : A.on s.heap it i) (ne : ∀ b, b ∈ A.fp it → b ≠ it → True) (hne : A.v ≠ .ref it) :
    ∃ (P : Nat → Value → Prop) (St : Nat → Heap → Prop), Draws X.prog X.w X.A.in1 it (A.fp it) xs.length P St ∧ St i s.heap ∧ (∀ j v, P j v → ∃ x, xs[j]? = some x ∧ RelV x v) ∧ ∀ j h2, St j h2 → A.on h2 it j := by
  cases A with
  | lst a =>
    obtain ⟨its, rv, p, _⟩ := I.list hq
    have hn : a ≠ it := fun e => hne (by rw [e]; rfl)
    have D := Draws.list (prog := X.prog) (w := X.w) (A := X.A.in1) hh it a hn its.toArray
    have e : its.toArray.size = xs.length := by rw [List.size_toArray]; exact rv.length.symm
    rw [e] at D
    refine ⟨_, _, D, ⟨ho, p.isList⟩, fun j v hv => ?_, fun j h2 z => z.1⟩
    have hv : its.toArray[j]? = some v := hv
    rw [List.getElem?_toArray] at hv
    have hl : j < xs.length := by rw [rv.length]; exact (List.getElem?_eq_some_iff.mp hv).1
    obtain ⟨u, hu, ru⟩ := rv.get (List.getElem?_eq_getElem hl)
    rw [hv] at hu
    cases hu
    exact ⟨_, List.getElem?_eq_getElem hl, ru⟩
  | tup a =>
    obtain ⟨its, rv, p, _⟩ := I.tuple hq
    have hn : a ≠ it := fun e => hne (by rw [e]; rfl)
    have D := Draws.tuple (prog := X.prog) (w := X.w) (A := X.A.in1) hh it a hn its.toArray
    have e : its.toArray.size = xs.length := by rw [List.size_toArray]; exact rv.length.symm
    rw [e] at D
    refine ⟨_, _, D, ⟨ho, p⟩, fun j v hv => ?_, fun j h2 z => z.1⟩
    have hv : its.toArray[j]? = some v := hv
    rw [List.getElem?_toArray] at hv
    have hl : j < xs.length := by rw [rv.length]; exact (List.getElem?_eq_some_iff.mp hv).1
    obtain ⟨u, hu, ru⟩ := rv.get (List.getElem?_eq_getElem hl)
    rw [hv] at hu
    cases hu
    exact ⟨_, List.getElem?_eq_getElem hl, ru⟩
  | txt z =>
    obtain ⟨t, ho⟩ := ho
    have hq : xs = _ := hq
    subst hq
    have D := Draws.text (prog := X.prog) (w := X.w) (A := X.A.in1) hh it z t
    have e : z.cps.size = (z.cps.toList.map fun c => V.str ⟨#[c]⟩).length := by simp
    rw [e] at D
    refine ⟨_, _, D, ho, fun j v hv => ?_, fun j h2 z => ⟨t, z⟩⟩
    obtain ⟨c, u, hc, rfl⟩ := hv
    exact ⟨.str ⟨#[c]⟩, by rw [List.getElem?_map, Array.getElem?_toList, hc]; rfl, ⟨u, rfl⟩⟩
end
/-- each item in a new pair -/
def ItE (K : PySem.W.Frag) (A : Sc) : It :=
  ⟨fun i H => ∃ (xs : List V) (x : V), A.has K H xs ∧ xs[i]? = some x,
   fun i H v H2 => ∃ T x o, v = .ref T ∧ H T = none ∧ o.dict = none ∧ H2 = upd H T (.frz o (.tup [.int (i : Nat), x])) ∧ ∀ xs, A.has K H xs → xs[i]? = some x,
   fun i H => ∃ xs : List V, A.has K H xs ∧ xs.length = i⟩
theorem turn_enumZ {P : Program} {w : World} {K : PySem.W.Frag} {elts : List Expr} {kk : Nat} {tpos : Pos} (A : Sc) (e it : Addr) (ne1 : e ≠ it) (ne2 : e ∉ A.fp it) (ne3 : A.v ≠ .ref it) :
    Turn P w K (.Tuple elts kk tpos) (ItE K A) [e, it] e (fun i h => (∃ old, IsEnum h e it ((i : Nat) : Int) old) ∧ A.on h it i) where
  mem := by simp
  obj := fun i h z b hb => by
    obtain ⟨⟨old, he⟩, ho⟩ := z
    have cs : b = e ∨ b = it := by simpa using hb
    rcases cs with q | q
    · subst q; exact ⟨_, he, fun v y => nomatch y⟩
    · subst q; exact Sc.on_obj ho
  keep := fun i h h2 z k => let ⟨⟨old, he⟩, hi⟩ := z; ⟨⟨old, k e (by simp) _ he⟩, Sc.on_at hi fun o q => k it (by simp) o q⟩
  item := by
    intro X hP hw hK hc i pins s σ H E J hf z hg
    subst hP hw hK
    obtain ⟨⟨old, he⟩, hit⟩ := z
    obtain ⟨xs, x, hq, hx⟩ := hg
    obtain ⟨Pr, St, D, st, hp, hs⟩ := Sc.draws (J.ok.hd hc) J hq hit (fun _ _ _ => trivial) ne3
    have hel : e < s.heap.objs.size := Heap.lt_size he
    have hil : it < s.heap.objs.size := by obtain ⟨_, q, _⟩ := Sc.on_obj hit; exact Heap.lt_size q
    have hlt : i < xs.length := (List.getElem?_eq_some_iff.mp hx).1
    refine wpAny_pyNext_enum_itemD D he st hlt ne1 ne2 fun y h2 tk hy ho hst hT hsz hk => ?_
    obtain ⟨x2, hx2, ry⟩ := hp _ _ hy
    rw [hx] at hx2
    cases hx2
    refine ⟨_, rfl, wpAny_letOwnedTupleGo_enum (s := { s with heap := h2, toks := tk + 1 }) ho fun h3 he3 sb => ?_⟩
    have hT2 : h3.get? s.heap.objs.size = some { cls := .type "tuple", data := .seq #[.int i tk, y] } := (sb.2 _ (Nat.ne_of_gt hel)).trans hT
    have J1 : Inv X pins σ (upd H s.heap.objs.size (.frz { cls := .type "tuple", data := .seq #[.int i tk, y] } (.tup [.int (i : Nat), x]))) { s with heap := h3, toks := tk + 1 } :=
      J.turnedNew (ch := [e, it]) (fun b o hb q => (sb.2 b (fun z => hb (by simp [z]))).trans (hk b o (fun z => hb (by simp [z])) (fun z => hb (by simp [z])) q)) hf (Nat.le_refl _)
        (solid_obj (its := [.int i tk, y]) hT2 rfl rfl (.cons ⟨_, rfl⟩ (.cons ry .nil)) (by show 2 ≤ sizeLine; decide))
    refine ⟨.ref s.heap.objs.size, _, J1, rfl, ⟨_, x, _, rfl, J.hok.fresh (Nat.le_refl _), rfl, rfl, fun ys hy => by rw [Sc.inj J hy hq]; exact hx⟩, ⟨⟨y, ?_⟩, Sc.on_at (hs _ _ hst) fun o q => (sb.2 it (Ne.symm ne1)).trans q⟩, fun b hb => ?_⟩
    · rw [show ((i + 1 : Nat) : Int) = (i : Int) + 1 by omega]
      exact he3
    · have cs : b = e ∨ b = it := by simpa using hb
      have hb2 : b < s.heap.objs.size := by rcases cs with q | q <;> rw [q] <;> assumption
      rw [upd_ne (Nat.ne_of_lt hb2)]
      exact (hf b hb).1
  done := by
    intro X hP hw hK hc i pins s σ H E J hf z hg
    subst hP hw hK
    obtain ⟨⟨old, he⟩, hit⟩ := z
    obtain ⟨xs, hq, hx⟩ := hg
    subst hx
    obtain ⟨Pr, St, D, st, hp, hs⟩ := Sc.draws (J.ok.hd hc) J hq hit (fun _ _ _ => trivial) ne3
    obtain ⟨f0, f1, f2, f3, f4, f5⟩ := hf it (by simp)
    exact wpAny_pyNext_enum_endD D he st fun h2 eb => ⟨rfl, J.turned (t' := s.toks) (fun b o hb q => eb b o hb q) f0 f1 f3 f4 f5⟩
  self := fun A i s Q E z h => let ⟨⟨_, he⟩, _⟩ := z; wpAny_pyIter_enum he h
theorem pi_enumZ {X : Cx} {e : Expr} {ta : TA} {p pos tpos : Pos} {elts : List Expr} {kk : Nat} (hg : Gl X "enumerate") (hm : X.mg "enumerate" = none) (ha : PA X [e] ta) (hs : starEach [e] X.env = [(false, eval e X.env)]) :
    PI X (.Tuple elts kk tpos) (.Call (.Name "enumerate" p) [e] [] pos) (fun σ H R => ta σ H fun vs H1 => ∃ a xs, vs = [.ref a] ∧ ((SqL X.K H1 a xs ∧ R (ItE X.K (.lst a)) H1) ∨ (SqT X.K H1 a xs ∧ R (ItE X.K (.tup a)) H1))) := by
  constructor
  intro pins s σ H R J h
  refine Call_ (ld_blt J hg hm boot_enumerate (PyProof.Rows.callWith_type1 (thn (ha.run pos pins s σ H _ J h) fun us s1 ⟨vs, H1, J1, r1, a, xs, ex, q1⟩ => ?_) hs rfl))
  subst ex
  obtain ⟨u, rfl, rx⟩ := vals1 r1
  cases rx
  have fp : ∀ b ∈ [s1.heap.objs.size + 1, s1.heap.objs.size], FpOk X pins H1 b := fun b hb => by
    have cs : b = s1.heap.objs.size + 1 ∨ b = s1.heap.objs.size := by simpa using hb
    have hle : s1.heap.objs.size ≤ b := by rcases cs with z | z <;> rw [z] <;> omega
    exact J1.fpOk hle (J1.hok.fresh hle)
  rcases q1 with ⟨hq, q⟩ | ⟨hq, q⟩
  · obtain ⟨its, rv, pl, hz⟩ := J1.list hq
    have hal : a < s1.heap.objs.size := pl.lt
    refine call_enumerate_list pl.isList fun h2 he hit hsz hk => wpAny_pyIter_enum he ?_
    exact ⟨s1.heap.objs.size + 1, [s1.heap.objs.size + 1, s1.heap.objs.size], _, _, H1, rfl, J1.kept (t' := s1.toks) hk, turn_enumZ (.lst a) (s1.heap.objs.size + 1) s1.heap.objs.size (Nat.succ_ne_self _) (by simp only [Sc.fp, List.mem_cons, List.not_mem_nil, or_false, not_or]; exact ⟨Nat.succ_ne_self _, Nat.ne_of_gt (Nat.lt_succ_of_lt hal)⟩) (fun z => absurd (V.ref.inj z) (Nat.ne_of_lt hal)), ⟨⟨.none, he⟩, hit⟩, fp, q⟩
  · obtain ⟨its, rv, pl, hz⟩ := J1.tuple hq
    have hal : a < s1.heap.objs.size := by obtain ⟨_, q, _⟩ := pl; exact Heap.lt_size q
    refine call_enumT pl fun h2 he hit hsz hk => wpAny_pyIter_enum he ?_
    exact ⟨s1.heap.objs.size + 1, [s1.heap.objs.size + 1, s1.heap.objs.size], _, _, H1, rfl, J1.kept (t' := s1.toks) hk, turn_enumZ (.tup a) (s1.heap.objs.size + 1) s1.heap.objs.size (Nat.succ_ne_self _) (by simp only [Sc.fp, List.mem_cons, List.not_mem_nil, or_false, not_or]; exact ⟨Nat.succ_ne_self _, Nat.ne_of_gt (Nat.lt_succ_of_lt hal)⟩) (fun z => absurd (V.ref.inj z) (Nat.ne_of_lt hal)), ⟨⟨.none, he⟩, hit⟩, fp, q⟩
/-- the items of both, in new pairs -/
def ItP (K : PySem.W.Frag) (A B : Sc) : It :=
  ⟨fun i H => ∃ (xs ys : List V) (x y : V), A.has K H xs ∧ B.has K H ys ∧ xs[i]? = some x ∧ ys[i]? = some y,
   fun i H v H2 => ∃ T x y o, v = .ref T ∧ H T = none ∧ o.dict = none ∧ H2 = upd H T (.frz o (.tup [x, y])) ∧ (∀ xs, A.has K H xs → xs[i]? = some x) ∧ ∀ ys, B.has K H ys → ys[i]? = some y,
   fun i H => ∃ xs ys : List V, A.has K H xs ∧ B.has K H ys ∧ i ≤ xs.length ∧ i ≤ ys.length ∧ (i = xs.length ∨ i = ys.length)⟩
theorem turn_zipZ {P : Program} {w : World} {K : PySem.W.Frag} {elts : List Expr} {kk : Nat} {tpos : Pos} {A B : Sc} {z TI TO i1 i2 : Addr} (D : ZipSep2 z TI TO i1 i2 (A.fp i1) (B.fp i2)) (na : A.v ≠ .ref i1) (nb : B.v ≠ .ref i2) :
    Turn P w K (.Tuple elts kk tpos) (ItP K A B) [z, TI, TO, i1, i2] z (fun i h => IsZip h z TI TO .none ∧ IsTupOf2 h TI (.ref i1) (.ref i2) ∧ (∃ x y, IsTupOf2 h TO x y) ∧ A.on h i1 i ∧ B.on h i2 i) where
  mem := by simp
  obj := fun i h st c hc => by
    obtain ⟨hz, hTI, ⟨x, y, hTO⟩, h1, h2⟩ := st
    have cs : c = z ∨ c = TI ∨ c = TO ∨ c = i1 ∨ c = i2 := by simpa using hc
    rcases cs with q | q | q | q | q
    · rw [q]; exact ⟨_, hz, fun v q => nomatch q⟩
    · rw [q]; exact ⟨_, hTI, fun v q => nomatch q⟩
    · rw [q]; exact ⟨_, hTO, fun v q => nomatch q⟩
    · rw [q]; exact Sc.on_obj h1
    · rw [q]; exact Sc.on_obj h2
  keep := fun i h h2 st k => by
    obtain ⟨hz, hTI, ⟨x, y, hTO⟩, h1, h3⟩ := st
    exact ⟨k z (by simp) _ hz, k TI (by simp) _ hTI, ⟨x, y, k TO (by simp) _ hTO⟩, Sc.on_at h1 fun o q => k i1 (by simp) o q, Sc.on_at h3 fun o q => k i2 (by simp) o q⟩
  item := by
    intro X hP hw hK hc i pins s σ H E J hf st hg
    subst hP hw hK
    obtain ⟨hz, hTI, ⟨x0, y0, hTO⟩, h1, h2⟩ := st
    obtain ⟨xs, ys, x, y, hqx, hqy, hx, hy⟩ := hg
    obtain ⟨P1, S1, D1, st1, hp1, hs1⟩ := Sc.draws (J.ok.hd hc) J hqx h1 (fun _ _ _ => trivial) na
    obtain ⟨P2, S2, D2, st2, hp2, hs2⟩ := Sc.draws (J.ok.hd hc) J hqy h2 (fun _ _ _ => trivial) nb
    have l1 : i < xs.length := (List.getElem?_eq_some_iff.mp hx).1
    have l2 : i < ys.length := (List.getElem?_eq_some_iff.mp hy).1
    have hzl : z < s.heap.objs.size := Heap.lt_size hz
    refine wpAny_pyNext_zipD2_item D D1 D2 hz hTI hTO st1 st2 l1 l2 fun u1 u2 h2a tk y1 y2 z1 TO1 t1 t2 hT hsz hk => ?_
    obtain ⟨x2, hx2, rx⟩ := hp1 _ _ y1
    rw [hx] at hx2
    cases hx2
    obtain ⟨x3, hx3, ry⟩ := hp2 _ _ y2
    rw [hy] at hx3
    cases hx3
    refine ⟨_, rfl, wpAny_letOwnedTupleGo_zip (s := { s with heap := h2a, toks := tk }) z1 fun h3 z3 sb => ?_⟩
    have hT2 : h3.get? s.heap.objs.size = some { cls := .type "tuple", data := .seq #[u1, u2] } := (sb.2 _ (Nat.ne_of_gt hzl)).trans hT
    have J1 : Inv X pins σ (upd H s.heap.objs.size (.frz { cls := .type "tuple", data := .seq #[u1, u2] } (.tup [x, y]))) { s with heap := h3, toks := tk } :=
      J.turnedNew (ch := [z, TI, TO, i1, i2]) (fun c o hb q => (sb.2 c (fun q' => hb (by simp [q']))).trans (hk c o (fun q' => hb (by simp [q'])) (fun q' => hb (by simp [q'])) (fun q' => hb (by simp [q'])) (fun q' => hb (by simp [q'])) q)) hf (Nat.le_refl _)
        (solid_obj (its := [u1, u2]) hT2 rfl rfl (.cons rx (.cons ry .nil)) (by show 2 ≤ sizeLine; decide))
    refine ⟨.ref s.heap.objs.size, _, J1, rfl, ⟨_, x, y, _, rfl, J.hok.fresh (Nat.le_refl _), rfl, rfl, fun l hl => by rw [Sc.inj J hl hqx]; exact hx, fun l hl => by rw [Sc.inj J hl hqy]; exact hy⟩, ⟨z3, ?_, ⟨u1, u2, ?_⟩, ?_, ?_⟩, fun c hcm => ?_⟩
    · exact (sb.2 _ D.TIz).trans (hk _ _ D.TIz D.TITO D.TIi1 D.TIi2 hTI)
    · exact (sb.2 _ D.TOz).trans TO1
    · exact Sc.on_at (hs1 _ _ t1) fun o q => (sb.2 _ (Ne.symm D.zi1)).trans q
    · exact Sc.on_at (hs2 _ _ t2) fun o q => (sb.2 _ (Ne.symm D.zi2)).trans q
    · have hlt : c < s.heap.objs.size := by
        have cs : c = z ∨ c = TI ∨ c = TO ∨ c = i1 ∨ c = i2 := by simpa using hcm
        rcases cs with q | q | q | q | q
        · rw [q]; exact hzl
        · rw [q]; exact Heap.lt_size hTI
        · rw [q]; exact Heap.lt_size hTO
        · rw [q]; obtain ⟨_, e1, _⟩ := Sc.on_obj h1; exact Heap.lt_size e1
        · rw [q]; obtain ⟨_, e1, _⟩ := Sc.on_obj h2; exact Heap.lt_size e1
      rw [upd_ne (Nat.ne_of_lt hlt)]
      exact (hf c hcm).1
  done := by
    intro X hP hw hK hc i pins s σ H E J hf st hg
    subst hP hw hK
    obtain ⟨hz, hTI, ⟨x0, y0, hTO⟩, h1, h2⟩ := st
    obtain ⟨xs, ys, hqx, hqy, b1, b2, hend⟩ := hg
    obtain ⟨P1, S1, D1, st1, hp1, hs1⟩ := Sc.draws (J.ok.hd hc) J hqx h1 (fun _ _ _ => trivial) na
    obtain ⟨P2, S2, D2, st2, hp2, hs2⟩ := Sc.draws (J.ok.hd hc) J hqy h2 (fun _ _ _ => trivial) nb
    exact wpAny_pyNext_zipD2_end D D1 D2 hz hTI hTO st1 st2 b1 b2 hend fun h3 tk hk => ⟨rfl, J.turnedL (t' := tk) (ch := [z, TI, TO, i1, i2]) (fun c o hb q =>
      hk c o (fun q' => hb (by simp [q'])) (fun q' => hb (by simp [q'])) (fun q' => hb (by simp [q'])) (fun q' => hb (by simp [q'])) q) hf⟩
  self := fun A i s Q E st h => wpAny_pyIter_zip st.1 h
theorem Sc.begin {X : Cx} {pins : List (Addr × Obj)} {σ : L2.St} {H : Hp} {s : Shared} {A : Sc} {xs : List V} {v : Value} (I : Inv X pins σ H s) (hq : A.has X.K H xs) (r : RelV A.v v) :
    ∃ (o : Obj) (G : Heap → Prop), Begins v o G ∧ G s.heap ∧ (∀ h a, h.get? a = some o → A.on h a 0) ∧ ∀ a, A.v = .ref a → a < s.heap.objs.size := by
  cases A with
  | lst a =>
    obtain rfl : v = .ref a := r
    obtain ⟨its, rv, p, _⟩ := I.list hq
    exact ⟨_, _, begins_list a its.toArray, p.isList, fun h b e => ⟨_, e, rfl, rfl⟩, fun b e => by cases e; exact p.lt⟩
  | tup a =>
    obtain rfl : v = .ref a := r
    obtain ⟨its, rv, p, _⟩ := I.tuple hq
    exact ⟨_, _, begins_tuple a its.toArray, p, fun h b e => ⟨_, e, rfl, rfl⟩, fun b e => by cases e; obtain ⟨_, q, _⟩ := p; exact Heap.lt_size q⟩
  | txt z =>
    obtain ⟨t, rfl⟩ : ∃ t, v = .str z t := r
    exact ⟨_, _, begins_text z t, trivial, fun h b e => ⟨t, _, e, rfl, rfl⟩, fun b e => nomatch e⟩
theorem Sc.fp_old {A : Sc} {n i b : Nat} (h : ∀ a, A.v = .ref a → a < n) (hb : n ≤ b) (hi : b ≠ i) : b ∉ A.fp i := by
  cases A with
  | lst a =>
    have := h a rfl
    simp only [Sc.fp, List.mem_cons, List.not_mem_nil, or_false, not_or]
    exact ⟨hi, fun e => absurd this (by rw [← e]; exact Nat.not_lt.mpr hb)⟩
  | tup a =>
    have := h a rfl
    simp only [Sc.fp, List.mem_cons, List.not_mem_nil, or_false, not_or]
    exact ⟨hi, fun e => absurd this (by rw [← e]; exact Nat.not_lt.mpr hb)⟩
  | txt z => simpa [Sc.fp] using hi
theorem zip_sep {A B : Sc} {n : Nat} (ha : ∀ a, A.v = .ref a → a < n) (hb : ∀ a, B.v = .ref a → a < n) : ZipSep2 (n + 4) (n + 2) (n + 3) n (n + 1) (A.fp n) (B.fp (n + 1)) where
  TIz := fun h => by have h : (n + 2 : Nat) = n + 4 := h; omega
  TOz := fun h => by have h : (n + 3 : Nat) = n + 4 := h; omega
  TITO := fun h => by have h : (n + 2 : Nat) = n + 3 := h; omega
  TIi1 := fun h => by have h : (n + 2 : Nat) = n := h; omega
  mem1 := Sc.fp_it
  zf1 := Sc.fp_old ha (by omega) (by omega)
  Tf1 := Sc.fp_old ha (by omega) (by omega)
  TIi2 := fun h => by have h : (n + 2 : Nat) = n + 1 := h; omega
  mem2 := Sc.fp_it
  zf2 := Sc.fp_old hb (by omega) (by omega)
  Tf2 := Sc.fp_old hb (by omega) (by omega)
  sep1_2 := Sc.fp_old hb (by omega) (by omega)
  sep2_1 := Sc.fp_old ha (by omega) (by omega)
theorem pi_zipZ {X : Cx} {e e2 : Expr} {ta : TA} {p pos tpos : Pos} {elts : List Expr} {kk : Nat} (hg : Gl X "zip") (hm : X.mg "zip" = none) (ha : PA X [e, e2] ta)
    (hs : starEach [e, e2] X.env = (false, eval e X.env) :: starEach [e2] X.env := by rfl) (hpl : (backTo pos (starEach [e2] X.env)).any (·.1) = false := by rfl) :
    PI X (.Tuple elts kk tpos) (.Call (.Name "zip" p) [e, e2] [] pos) (fun σ H R => ta σ H fun vs H1 => ∃ (A B : Sc) (xs ys : List V), vs = [A.v, B.v] ∧ A.has X.K H1 xs ∧ B.has X.K H1 ys ∧ R (ItP X.K A B) H1) := by
  constructor
  intro pins s σ H R I h
  refine Call_ (ld_blt I hg hm PyProof.Rows.boot_zip (PyProof.Rows.callWith_type1 (thn (ha.run pos pins s σ H _ I h) fun us s1 ⟨vs, H1, I1, r1, q1⟩ => ?_) hs hpl))
  obtain ⟨A, B, xs, ys, ex, hqx, hqy, q⟩ := q1
  subst ex
  obtain ⟨u, u2, rfl, rx, ry⟩ := vals2 r1
  obtain ⟨o1, G1, B1, g1, on1, lt1⟩ := Sc.begin I1 hqx rx
  obtain ⟨o2, G2, B2, g2, on2, lt2⟩ := Sc.begin I1 hqy ry
  refine zip_begins2 B1 B2 g1 g2 fun h2 hz hTI hTO e1 e2 hsz hk => wpAny_pyIter_zip hz ?_
  refine ⟨s1.heap.objs.size + 4, [s1.heap.objs.size + 4, s1.heap.objs.size + 2, s1.heap.objs.size + 3, s1.heap.objs.size, s1.heap.objs.size + 1], _, _, H1, rfl, I1.kept (t' := s1.toks) hk,
    turn_zipZ (zip_sep (A := A) (B := B) lt1 lt2) (fun z => absurd (lt1 _ z) (Nat.lt_irrefl _)) (fun z => absurd (lt2 _ z) (Nat.not_lt.mpr (Nat.le_succ _))), ⟨hz, hTI, ⟨_, _, hTO⟩, on1 _ _ e1, on2 _ _ e2⟩, fun c hcm => ?_, q⟩
  have cs : c = s1.heap.objs.size + 4 ∨ c = s1.heap.objs.size + 2 ∨ c = s1.heap.objs.size + 3 ∨ c = s1.heap.objs.size ∨ c = s1.heap.objs.size + 1 := by simpa using hcm
  have hle : s1.heap.objs.size ≤ c := by
    rcases cs with z | z | z | z | z
    · rw [z]; exact Nat.le_add_right _ _
    · rw [z]; exact Nat.le_add_right _ _
    · rw [z]; exact Nat.le_add_right _ _
    · rw [z]; exact Nat.le_refl _
    · rw [z]; exact Nat.le_add_right _ _
  exact I1.fpOk hle (I1.hok.fresh hle)
section
variable {X : Cx} {pins : List (Addr × Obj)} {σ : L2.St} {H : Hp} {s : Shared} {vs : List V} {a : Addr}
theorem solid_at (I : Inv X pins σ H s) (h : Solid X.K H a vs) : ∃ its : List Value, Vals vs its ∧ PlainSeq "tuple" s.heap a its.toArray ∧ vs.length ≤ sizeLine := by
  rcases h with ⟨o, h, hd⟩ | ⟨o, its, n, hk, hc, hd, hs, hz, r⟩
  · obtain ⟨ho, z, its, rv, o2, ho2, hc, n, hs⟩ := I.hok a _ h
    rw [ho] at ho2
    cases ho2
    exact ⟨its, rv, ⟨o, n, ho, hc, hd, hs⟩, z⟩
  · refine ⟨its.toList, r, ⟨o, n, I.kIn a o hk, hc, hd, by simpa using hs⟩, ?_⟩
    have e := r.length
    simp only [Array.length_toList] at e
    omega
theorem call_dictZ (hc : X.calm = true) : CallR X (.type "dict") (fun xs H Q => ∃ (a : Addr) (ps : List Addr) (kvs : List (Key × V)), xs = [.ref a] ∧ Solid X.K H a (ps.map V.ref) ∧ Paired (fun p kv => SqT X.K H p [kV kv.1, kv.2]) ps kvs ∧
    ∀ p, H p = none → Q (.ref p) (upd H p (.dK (mergeK [] kvs)))) := by
  intro pins s σ H xs us Q I r q
  obtain ⟨a, ps, kvs, ex, hq, hp, q⟩ := q
  subst ex
  obtain ⟨u, eu, rx⟩ := vals1 r
  subst eu
  cases rx
  obtain ⟨its, rv, pl, hz⟩ := solid_at I hq
  have ei := refs_at rv
  subst ei
  rw [List.length_map] at hz
  obtain ⟨prs, rel, hl, hpr⟩ := pairs_of I hp
  have Pa : ∃ qs : List (Value × Value), qs.length = prs.length ∧ ∀ (j : Nat) k v, qs[j]? = some (k, v) → ∃ b q, ps[j]? = some b ∧ prs[j]? = some (q, v) ∧ s.heap.IsTuple b #[k, v] ∧ keyIs q k = true := by
    have key : ∀ (prs : List (Key × Value)) (ps : List Addr), (∀ (j : Nat) (q : Key × Value), prs[j]? = some q → ∃ (b : Addr) (u : Value), ps[j]? = some b ∧ IsTup s.heap b #[u, q.2] ∧ keyIs q.1 u = true) →
        ∃ qs : List (Value × Value), qs.length = prs.length ∧ ∀ (j : Nat) k v, qs[j]? = some (k, v) → ∃ b q, ps[j]? = some b ∧ prs[j]? = some (q, v) ∧ s.heap.IsTuple b #[k, v] ∧ keyIs q k = true := by
      intro prs
      induction prs with
      | nil => exact fun ps h => ⟨[], rfl, fun j k v e => by simp at e⟩
      | cons x prs ih =>
        intro ps h
        obtain ⟨b, u, e1, e2, e3⟩ := h 0 x rfl
        obtain ⟨qs, hl, hj⟩ := ih ps.tail fun j q e => by
          obtain ⟨b, u, e1, e2, e3⟩ := h (j + 1) q (by simpa using e)
          exact ⟨b, u, by rw [List.getElem?_tail]; exact e1, e2, e3⟩
        refine ⟨(u, x.2) :: qs, by simp [hl], fun j k v e => ?_⟩
        cases j with
        | zero =>
          have e4 : (u, x.2) = (k, v) := Option.some.inj e
          cases e4
          exact ⟨b, x.1, e1, rfl, e2, e3⟩
        | succ j =>
          obtain ⟨b, q, e1, e2, e3, e4⟩ := hj j k v (by simpa using e)
          exact ⟨b, q, by rw [List.getElem?_tail] at e1; exact e1, by simpa using e2, e3, e4⟩
    exact key prs ps hpr
  obtain ⟨qs, lq, hqs⟩ := Pa
  have P := PairArg.tuple (prog := X.prog) (w := X.w) a (ps.map Value.ref).toArray (fun j => ps.getD j 0) qs
  refine PySem.call_dict_pairs (knd := mixKind X.prog X.w) (kvs := prs) P (I.ok.hd hc) ⟨pl, ?_, fun j k v e => ?_⟩ ⟨lq.symm, fun j k v e => ?_⟩ (by rw [lq, hl]; exact hz) fun h2 tk hd2 kp => ?_
  · rw [lq, hl]; simp
  · obtain ⟨b, q, e1, e2, e3, e4⟩ := hqs j k v e
    have e5 : ps.getD j 0 = b := by rw [List.getD_eq_getElem?_getD, e1]; rfl
    exact ⟨by rw [List.getElem?_toArray, List.getElem?_map, e1]; exact congrArg (fun z => some (Value.ref z)) e5.symm, .inl (by show s.heap.IsTuple (ps.getD j 0) _; rw [e5]; exact e3)⟩
  · obtain ⟨b, q, e1, e2, e3, e4⟩ := hqs j k v e
    exact ⟨q, e2, e4⟩
  · have hm : (s.heap.objs.size == sysModules) = false := beq_eq_false_iff_ne.mpr (Nat.ne_of_gt I.big)
    have hlen : (mergeK [] kvs).length ≤ sizeLine := by
      refine Nat.le_trans (length_mergeK kvs []) ?_
      rw [List.length_nil, Nat.zero_add, rel.length, hl]
      exact hz
    exact ⟨.ref s.heap.objs.size, upd H s.heap.objs.size (.dK (mergeK [] kvs)), I.laid (t' := tk) (fun c ob e => kp c ob (fun z => nomatch z) e) (Nat.le_refl _) (show ObjOk X.prog X.w _ _ _ (.dK (mergeK [] kvs)) from ⟨hlen, hm, merged [] prs, KV.merge rel .nil, hd2⟩), rfl, q _ (I.hok.fresh (Nat.le_refl _))⟩
theorem dt_pairsZ {Q : VK} {its : List Addr} {ps : List XE} (hc : X.calm = true) (hu : X.A.units + 11 < cLine) (I : Inv X pins σ H s) (hq : Solid X.K H a (its.map V.ref)) (hp : Paired (fun t p => SqT X.K H t [V.ref p.2.1, p.2.2]) its ps) (hk : KeysIn X.prog X.w s.heap ps)
    (q : ∀ p, H p = none → DtAt X.w (upd H p (DtO X.w p (allX ps))) p (allX ps) → Q (.ref p) (upd H p (DtO X.w p (allX ps)))) : wpAny (model X.prog X.w) X.A (call (.type "dict") [.ref a]) (EP X pins σ Q) X.xe s := by
  obtain ⟨vs, rv, pl, hz⟩ := solid_at I hq
  have ei := refs_at rv
  subst ei
  rw [List.length_map] at hz
  have key : ∀ {its : List Addr} {ps : List XE}, Paired (fun t p => SqT X.K H t [V.ref p.2.1, p.2.2]) its ps → ∃ qs : List YE, RX ps qs ∧ its.length = qs.length ∧ ∀ (j : Nat) (y : YE), qs[j]? = some y → ∃ t, its[j]? = some t ∧ s.heap.IsTuple t #[.ref y.2.1, y.2.2] := by
    intro its ps h
    induction h with
    | nil => exact ⟨[], .nil, rfl, fun j y e => by simp at e⟩
    | @cons t p its ps h _ ih =>
      obtain ⟨qs, r, hl, hj⟩ := ih
      obtain ⟨us, rv, ht, _⟩ := I.tuple h
      obtain ⟨u, y, e, ru, ry⟩ := vals2 rv
      subst e
      obtain rfl : u = Value.ref p.2.1 := ru
      refine ⟨(p.1, p.2.1, y) :: qs, .cons ⟨rfl, rfl, ry⟩ r, by rw [List.length_cons, List.length_cons, hl], fun j z e => ?_⟩
      cases j with
      | zero =>
        have e2 : (p.1, p.2.1, y) = z := Option.some.inj e
        subst e2
        exact ⟨t, rfl, ht⟩
      | succ j =>
        obtain ⟨t2, e1, e2⟩ := hj j z (by simpa using e)
        exact ⟨t2, by simpa using e1, e2⟩
  obtain ⟨qs, r, hl, hj⟩ := key hp
  obtain ⟨o, n, ho, hcl, hd, hdat⟩ := pl
  have P := PairArg.tuple (prog := X.prog) (w := X.w) a (its.map Value.ref).toArray (fun j => its.getD j 0) (qs.map fun y => (Value.ref y.2.1, y.2.2))
  have l1 : (qs.map fun y => (Value.ref y.2.1, y.2.2)).length = its.length := by rw [List.length_map, hl]
  refine call_dict_pairsH (knd := nestedKind X.prog X.w) (ps := qs) P (I.ok.hd hc) ?_ ⟨⟨o, n, ho, hcl, hd, hdat⟩, ?_, fun j k v e => ?_⟩ ⟨?_, fun j k v e => ?_⟩ (fun h2 hk2 y hy => ?_) (by rw [l1]; exact hz) fun h2 tk d2 kp => ?_
  · have : X.A.in1.in1.units = X.A.units + 2 := rfl
    show X.A.in1.in1.units + 8 < cLine
    omega
  · rw [l1]; simp
  · rw [List.getElem?_map] at e
    cases hy : qs[j]? with
    | none => rw [hy] at e; exact nomatch (show none = some (k, v) from e)
    | some y =>
      rw [hy] at e
      have e2 : (Value.ref y.2.1, y.2.2) = (k, v) := Option.some.inj e
      cases e2
      obtain ⟨t, e3, e4⟩ := hj j y hy
      have e5 : its.getD j 0 = t := by rw [List.getD_eq_getElem?_getD, e3]; rfl
      exact ⟨by rw [List.getElem?_toArray, List.getElem?_map, e3]; exact congrArg (fun z => some (Value.ref z)) e5.symm, .inl (by show s.heap.IsTuple (its.getD j 0) _; rw [e5]; exact e4)⟩
  · rw [List.length_map]
  · have e : (qs.map fun y => (Value.ref y.2.1, y.2.2))[j]? = some (k, v) := e
    rw [List.getElem?_map] at e
    cases hy : qs[j]? with
    | none => rw [hy] at e; exact nomatch (show none = some (k, v) from e)
    | some y =>
      rw [hy] at e
      have e2 : (Value.ref y.2.1, y.2.2) = (k, v) := Option.some.inj e
      cases e2
      exact ⟨y.1, y.2.1, rfl, rfl⟩
  · obtain ⟨x, hx, e1, e2⟩ := rx_mem r y hy
    rw [← e1, ← e2]
    exact nestedKind_stays.stays (fun c ob vs m e4 e5 => hk2 c ob (fun z => by subst z; exact absurd (Heap.lt_size e4) (Nat.lt_irrefl _)) (fun q => nomatch q) e4) (hk x hx)
  · have kp2 : ∀ c ob, s.heap.get? c = some ob → h2.get? c = some ob := fun c ob e => kp c ob (fun z => nomatch z) e
    have r2 := rx_all r
    have len : (allX ps).length ≤ sizeLine := by
      rw [rx_len r2]
      have := storedAllH_length qs ([] : List YE)
      rw [List.length_nil, Nat.zero_add] at this
      omega
    have hs : (s.heap.objs.size == sysModules) = false := beq_eq_false_iff_ne.mpr (Nat.ne_of_gt I.big)
    exact ⟨.ref s.heap.objs.size, _, I.laid (t' := tk) kp2 (Nat.le_refl _) (dt_ok r2 d2), rfl, q _ (I.hok.fresh (Nat.le_refl _)) ⟨upd_same, hs, DtAt.nodup r2 d2, len⟩⟩
end
end Mn
end

section
set_option Elab.async false
set_option linter.all false
set_option maxRecDepth 100000
set_option maxHeartbeats 4000000
end

section
set_option Elab.async false
set_option linter.all false
set_option maxRecDepth 100000
set_option maxHeartbeats 4000000
namespace Mn
open PySem PySem.Spec PyProof.Rows L2
section
variable {prog : Program} {w : World} {A : Around} {E : Value → Shared → Prop} {s : Shared}
def ledSet (w : World) : Obj := { cls := .type "set", dict := none, data := .set #[] 0 (.fresh 0 0 (!w.params.followText "set-order")) }
end
end Mn
end

section
set_option Elab.async false
set_option linter.all false
set_option maxRecDepth 100000
set_option maxHeartbeats 4000000
namespace Mn
open PySem PySem.Spec PyProof.Rows L2
section
/-- len(set(xs)), a list of tuples of ints -/
def tLenTups (K : PySem.W.Frag) (ta : TA) : TE := fun σ H Q => ta σ H fun vs H1 => ∃ (l : Addr) (ks : List (Addr × List Int)), vs = [V.ref l] ∧ SqL K H1 l (ks.map fun p => V.ref p.1) ∧ (∀ p ∈ ks, SqT K H1 p.1 (p.2.map V.int)) ∧ ks.length < 64 ∧
  ∀ n : Nat, (∃ L : List (List Int), L.Nodup ∧ (∀ k, k ∈ L ↔ k ∈ ks.map (·.2)) ∧ L.length = n) → Q (.int n) H1
theorem pe_lenTups {X : Cx} {a : Expr} {ta : TA} {p p2 q pos : Pos} (hg : Gl X "len") (hm : X.mg "len" = none) (hg2 : Gl X "set") (hm2 : X.mg "set" = none) (ha : PA X [a] ta) (hc : X.calm = true) (hu : X.A.units + 64 < cLine)
    (na : starEach [a] X.env = (false, eval a X.env) :: starEach [] X.env) : PE X (.Call (.Name "len" p) [.Call (.Name "set" p2) [a] [] q] [] pos) (tLenTups X.K ta) := by
  constructor
  intro pins s σ H Q I h
  refine Call_ (ld_blt I hg hm boot_len ?_)
  apply PyProof.Rows.callWith_builtin1 (PyProof.Rows.args_cons _ rfl) rfl rfl
  refine Call_ (ld_blt I hg2 hm2 boot_set ?_)
  refine PyProof.Rows.callWith_type1 (thn (ha.run q pins s σ H _ I h) fun us s1 ⟨vs, H1, I1, r1, l, ks, ex, hl, hk, hf, q1⟩ => ?_) na rfl
  subst ex
  rw [Vals.ref1 r1]
  obtain ⟨its, rv, pl, hz⟩ := I1.list hl
  refine call_set_tups (P := X.prog) (w := X.w) ks (I1.ok.hd hc) pl.isList (by simpa using refs_of_vals rv) (fun p hp => I1.isT (hk p hp)) hf (by omega) fun h2 tk L es ep t R g k => PyProof.Rows.args_nil ?_
  have I2 : Inv X pins σ H1 { s1 with heap := h2, toks := tk } := I1.kept k
  obtain ⟨o, ho, hex, hd⟩ := R.ob
  have hsz := SetTR.size (s := { s1 with heap := h2, toks := tk }) R
  have hfew := R.few
  refine call_len_set ho hex hd (SetTR.fits (s := { s1 with heap := h2, toks := tk }) R) (by rw [hsz]; omega) ⟨.int (L.length : Nat), H1, I2.tok _, ⟨_, by rw [hsz]⟩, q1 L.length ⟨L.map (·.2), R.nd, fun z => ⟨fun hz2 => ?_, fun hz2 => ?_⟩, List.length_map _⟩⟩
  · obtain ⟨x, hx, rfl⟩ := List.mem_map.mp hz2
    exact List.mem_map.mpr ⟨x, List.mem_of_mem_take (g.sub x hx), rfl⟩
  · obtain ⟨x, hx, rfl⟩ := List.mem_map.mp hz2
    exact g.all x (by rw [List.take_length]; exact hx)
end
section
variable {X : Cx} {pins : List (Addr × Obj)} {σ : L2.St} {H : Hp} {s : Shared} {A : Around} {E : Value → Shared → Prop} {a b : Addr} {xs : List XE} {k : NestedKey}
/-- d.setdefault(k, z) -/
theorem dt_setd {Q : Value → Shared → Prop} {z : V} {u : Value} (hu : A.units + 10 < cLine) (I : Inv X pins σ H s) (D : DtNow X H s.heap a xs) (kb : (nestedKind X.prog X.w).is s.heap k b) (hl : xs.length < sizeLine) (rz : RelV z u)
    (h1 : ∀ v, getX xs k = some v → ∀ w2 s2, Inv X pins σ H s2 → RelV v w2 → Q w2 s2)
    (h2 : getX xs k = none → ∀ s2, Inv X pins σ (upd H a (DtO X.w a (putX xs k b z))) s2 → DtAt X.w (upd H a (DtO X.w a (putX xs k b z))) a (putX xs k b z) → Q u s2) :
    wpAny (model X.prog X.w) A (call (.builtin "dict.setdefault") [.ref a, .ref b, u]) Q E s := by
  obtain ⟨ys, r, d⟩ := D.d
  have rg := rx_get (k := k) r
  refine call_setdefault_heap (hsz := by rw [← rx_len r]; exact D.sz) (room_nk hu) kb D.sys d (fun p hp => ?_) fun hn g hg hs => ?_
  · rw [hp] at rg
    cases e : getX xs k with
    | none => rw [e] at rg; exact rg.elim
    | some v => rw [e] at rg; exact h1 v e _ _ (I.tok _) rg
  · rw [hn] at rg
    cases e : getX xs k with
    | some v => rw [e] at rg; exact rg.elim
    | none =>
      have r2 := rx_put (k := k) r (b := b) rz
      exact h2 e _ (dt_write I D.mu hs r2 hg) ⟨upd_same, D.sys, DtAt.nodup r2 hg, by have := putX_len (xs := xs) (k := k) (b := b) (v := z); omega⟩
end
end Mn
end

section
set_option Elab.async false
set_option linter.all false
set_option maxRecDepth 100000
set_option maxHeartbeats 4000000
namespace Mn
open PySem PySem.Spec PyProof.Rows L2
section
variable {prog : Program} {w : World} {A : Around} {E : Value → Shared → Prop} {s : Shared}
theorem pick_map {α β : Type} {f : α → Option β} {g : α → β} : ∀ {l : List α}, (∀ m ∈ l, f m = some (g m)) → l.filterMap f = l.map g
  | [], _ => rfl
  | a :: l, h => by
    rw [List.filterMap_cons, h a List.mem_cons_self, List.map_cons, pick_map (l := l) fun m hm => h m (List.mem_cons_of_mem _ hm)]
theorem picks_back (xs : Array Value) : ((List.range xs.size).filterMap fun (m : Nat) => xs[(((xs.size : Int) - 1) + (m : Int) * (-1)).toNat]?).toArray = xs.toList.reverse.toArray := by
  have e1 : (List.range xs.size).filterMap (fun (m : Nat) => xs[(((xs.size : Int) - 1) + (m : Int) * (-1)).toNat]?) = (List.range xs.size).map fun m => xs.toList.getD (xs.size - 1 - m) .none := by
    refine pick_map fun m hm => ?_
    have hm := List.mem_range.mp hm
    have e : (((xs.size : Int) - 1) + (m : Int) * (-1)).toNat = xs.size - 1 - m := by omega
    have hlt : xs.size - 1 - m < xs.toList.length := by rw [Array.length_toList]; omega
    rw [e, ← Array.getElem?_toList, List.getElem?_eq_getElem hlt]
    simp [List.getElem?_eq_getElem hlt]
  rw [e1]
  congr 1
  refine List.ext_getElem? fun i => ?_
  rw [List.getElem?_map]
  by_cases hi : i < xs.size
  · have hlt : xs.size - 1 - i < xs.toList.length := by rw [Array.length_toList]; omega
    rw [List.getElem?_range hi, List.getElem?_reverse (by rw [Array.length_toList]; exact hi), Array.length_toList]
    simp only [Option.map_some, List.getD_eq_getElem?_getD, List.getElem?_eq_getElem hlt, Option.getD_some]
  · rw [List.getElem?_eq_none (by simp; omega), List.getElem?_eq_none (by simp; omega)]
    rfl
theorem places_back (n : Nat) : Builtin.Slice.slicePlaces ((n : Int) - 1) (-1) (-1) = n := by
  unfold Builtin.Slice.slicePlaces
  by_cases h : (n : Int) - 1 > -1
  · simp [h]
  · simp [h]; omega
theorem applied_back {sl : Addr} {vs : Value} {n : Nat} {Q : Int × Int × Nat → Shared → Prop} (hs : s.heap.IsSliceOf sl .none .none vs) (ps : IsPart vs (some (-1)))
    (h : Q ((n : Int) - 1, -1, n) s) : wpAny (model prog w) A (Builtin.Slice.sliceApplied (.ref sl) (pure (n : Int))) Q E s := by
  obtain ⟨ob, g1, _, g3⟩ := id hs
  unfold Builtin.Slice.sliceApplied Builtin.Slice.sliceFields
  refine wpAny_bind (wpAny_bind ?_)
  refine wpAny_field g1 g3 (x := .none) rfl (wpAny_bind ?_)
  refine wpAny_field g1 g3 (x := .none) rfl (wpAny_bind ?_)
  refine wpAny_field g1 g3 (x := vs) rfl (wpAny_pure ?_)
  refine wpAny_bind (HT.slicePart_ ps ?_)
  show wpAny _ _ (if ((-1 : Int) == 0) = true then _ else _) _ _ s
  rw [if_neg (by decide)]
  refine wpAny_bind (slicePart_none ?_)
  refine wpAny_bind (slicePart_none ?_)
  refine wpAny_bind (wpAny_pure ?_)
  have ea : Builtin.Slice.sliceAdjust none none (-1) (n : Int) = ((n : Int) - 1, -1) := rfl
  show wpAny _ _ (match Builtin.Slice.sliceAdjust none none (-1) (n : Int) with | (a, b) => pure (a, (-1 : Int), Builtin.Slice.slicePlaces a b (-1))) _ _ s
  rw [ea]
  show wpAny _ _ (pure ((n : Int) - 1, (-1 : Int), Builtin.Slice.slicePlaces ((n : Int) - 1) (-1) (-1))) _ _ s
  rw [places_back]
  exact wpAny_pure h
theorem item_back {t sl : Addr} {items : Array Value} {vs : Value} {Q : Value → Shared → Prop} (ht : IsTup s.heap t items) (hs : s.heap.IsSliceOf sl .none .none vs) (ps : IsPart vs (some (-1)))
    (h : Q (.ref s.heap.objs.size) { s with heap := s.heap.push { cls := .type "tuple", data := .seq items.toList.reverse.toArray } }) (hsz : items.size ≤ sizeLine) : wpAny (model prog w) A (getItem (.ref t) (.ref sl)) Q E s := by
  have ok : sizeOk (.seq items.toList.reverse.toArray) := by
    show items.toList.reverse.toArray.size ≤ sizeLine
    simpa using hsz
  obtain ⟨ob, g1, g2, g3⟩ := id hs
  have isl : s.TypeIs (.ref sl) "slice" := ⟨ob, g1, g2⟩
  unfold getItem
  try with_reducible refine wpAny_holding ?_
  first | refine wpAny_bind (wpAny_pure ?_) | skip
  refine wpAny_bind ?_
  refine wpAny_sequenceKey ht.typeIs (by decide) (wpAny_bind ?_)
  refine wpAny_callSpecial?_slot (name := Str.ofString "__getitem__") ht.typeIs
    PyProof.Rows.slot_tuple_getitem ?_
  refine wpAny_call_entry PyProof.Rows.slot_tuple_getitem ht.typeIs
    entry_tuple_getitem ?_ (args_tuple_getitem _ _)
  show wpAny _ _ (Builtin.Tuple.tupleItemsOf (.ref t) >>= _) _ _ s
  refine wpAny_bind (tupleItemsOf_ ht (wpAny_bind ?_))
  refine wpAny_typeOf isl ?_
  rw [if_pos (by decide)]
  refine wpAny_bind (applied_back hs ps ?_)
  have no : ¬ ((((items.size : Int) - 1) == 0 && (-1 : Int) == 1 && items.size == items.size) = true) := by simp
  show wpAny _ _ (if (((items.size : Int) - 1) == 0 && (-1 : Int) == 1 && items.size == items.size) = true then _ else _) _ _ s
  rw [if_neg no, picks_back]
  have fin := h
  first
    | exact wpAny_bind (m := Builtin.Tuple.tupleExact _) (wpAny_newObj_type (wpAny_pure ⟨_, rfl, wpAny_pure fin⟩) ok)
    | exact wpAny_bind (m := Builtin.Tuple.tupleExact _) (wpAny_newObj_type (wpAny_bind (wpAny_pure (wpAny_pure ⟨_, rfl, wpAny_pure fin⟩))) ok)
    | exact wpAny_bind (wpAny_bind (m := Builtin.Tuple.tupleExact _) (wpAny_newObj_type (wpAny_pure (wpAny_pure ⟨_, rfl, wpAny_pure fin⟩)) ok))
    | exact wpAny_bind (wpAny_bind (m := Builtin.Tuple.tupleExact _) (wpAny_newObj_type (wpAny_pure ⟨_, rfl, wpAny_pure fin⟩) ok))
end
def tBack (K : PySem.W.Frag) (te : TE) : TE := fun σ H Q => te σ H fun x H1 => (∃ a xs, x = .ref a ∧ SqL K H1 a xs ∧ ∀ p, H1 p = none → Q (.ref p) (upd H1 p (.lst xs.reverse))) ∨ (∃ a xs, x = .ref a ∧ SqT K H1 a xs ∧ NewT H1 xs.reverse Q)
section
variable {X : Cx}
theorem pe_back {e : Expr} {te : TE} {k : Nat} {p1 p2 p3 pos : Pos} (he : PE X e te) : PE X (.Subscript e (.Slice none none (some (.UnaryOp .USub (.Constant (.int 1) k p1) p2)) p3) pos) (tBack X.K te) := by
  constructor
  intro pins s σ H Q I h
  refine Subscript_ (thn (he.run pins s σ H _ I h) ?_)
  intro v s1 hv
  obtain ⟨x, H1, I1, r1, q1⟩ := hv
  have hst : PO X (some (.UnaryOp .USub (.Constant (.int 1) k p1) p2)) (tPart (tUn (rU fun i => .int (-i)) (tC (.int 1)))) := po_some (pe_un un_neg pe_int)
  refine wpAny_Slice (thn (po_none.run pins s1 σ H1 (fun o H2 => o = none ∧ H2 = H1) I1 ⟨rfl, rfl⟩) ?_)
  intro vl s2 hl
  obtain ⟨l, H2, I2, pl, el, e2⟩ := hl
  subst el e2
  refine thn (po_none.run pins s2 σ H2 (fun o H3 => o = none ∧ H3 = H2) I2 ⟨rfl, rfl⟩) ?_
  intro vu s3 hu
  obtain ⟨u, H3, I3, pu, eu, e3⟩ := hu
  subst eu e3
  refine thn (hst.run pins s3 σ H3 (fun o H4 => o = some (-1) ∧ H4 = H3) I3 ⟨1, rfl, -1, rfl, rfl, rfl⟩) ?_
  intro vs s4 hs4
  obtain ⟨o, H4, I4, ps, eo, e4⟩ := hs4
  subst eo e4
  cases pl
  cases pu
  have I5 : Inv X pins σ H4 { s4 with heap := s4.heap.push { cls := .type "slice", data := .fields #[.none, .none, vs] } } := I4.kept (t' := s4.toks) fun b ob q => Heap.get?_push_of_some _ q
  rcases q1 with ⟨a, xs, ex, hx, q⟩ | ⟨a, xs, ex, hx, q⟩
  · subst ex
    cases r1
    obtain ⟨its, r, ht, hz⟩ := I5.list hx
    have hlen := r.length
    show wpAny (model X.prog X.w) X.A (subscriptTail e (.Slice none none (some (.UnaryOp .USub (.Constant (.int 1) k p1) p2)) p3) (.ref a) (.ref s4.heap.objs.size)) (EP X pins σ Q) X.xe { s4 with heap := s4.heap.push { cls := .type "slice", data := .fields #[.none, .none, vs] } }
    refine tail_any (ops := [.ref a, .ref s4.heap.objs.size]) ht.isList.typeIs
      (PySem.slot_list_getitem.lookup) ?_ (by with_unfolding_all rfl)
    refine wpAny_getItem_list_slice ht.isList (Heap.IsSliceOf.new _ .none .none vs)
      .none .none ps (by decide) ?_ (by rw [List.size_toArray]; omega)
    rw [PySem.W.krv_pick]
    refine ⟨.ref _, _, I5.laid (t' := s4.toks) (o := .lst xs.reverse) (fun b ob q => Heap.get?_push_of_some _ q) (Nat.le_refl _) ?_,
      rfl, q _ (I5.hok.fresh (Nat.le_refl _))⟩
    refine ⟨?_, _, 0, r.reverse, Heap.get?_push_size _ rfl⟩
    rw [List.length_reverse]
    exact hz
  · subst ex
    cases r1
    obtain ⟨its, r, ht, hz⟩ := I5.tuple hx
    have hlen := r.length
    show wpAny (model X.prog X.w) X.A (subscriptTail e (.Slice none none (some (.UnaryOp .USub (.Constant (.int 1) k p1) p2)) p3) (.ref a) (.ref s4.heap.objs.size)) (EP X pins σ Q) X.xe { s4 with heap := s4.heap.push { cls := .type "slice", data := .fields #[.none, .none, vs] } }
    refine tail_any (ops := [.ref a, .ref s4.heap.objs.size]) ht.typeIs
      (PyProof.Rows.slot_tuple_getitem.lookup) ?_ (by with_unfolding_all rfl)
    refine item_back ht (Heap.IsSliceOf.new _ .none .none vs) ps ?_ (by rw [List.size_toArray]; omega)
    have e9 : (its.toArray.toList.reverse.toArray : Array Value) = its.reverse.toArray := by simp
    rw [e9]
    exact new_tup I5 r.reverse (by rw [List.length_reverse]; exact hz) q
end
end Mn
end

section
set_option Elab.async false
set_option linter.all false
set_option maxRecDepth 100000
set_option maxHeartbeats 4000000
namespace Mn
open PySem PySem.Spec PyProof.Rows L2
def Tk (S : Value → Prop) (X : Cx) (W : WX) : Prop := L2N.Takes X W ∧ L2.Takes X fun c d σ H => S c ∧ W c d σ H
section
variable {S : Value → Prop} {X : Cx} {W : WX}
theorem Tk.pass (tk : Tk S X W) (σ : L2.St) : PassesAt (CXk S X.prog X.w) X σ (WE W σ) := by
  intro pins H s e s2 I c
  rcases c with c | c
  · exact tk.1 e s2 (L2N.XE.of_call I (fun _ _ _ h => h) c)
  · exact tk.2 e s2 (L2.XE.of_call I (fun _ _ _ h => h) c)
theorem Tk.start (st : X.stack = X.env :: X.outer) (fr : X.env.frame = some X.env.locals) (ex : X.ex = []) {E : XK} {E₁ : Value → Shared → Prop}
    (hx : X.xe = fun e s2 => wpAny (model X.prog X.w) X.A (leaving X.env e) (fun _ s3 => CXk S X.prog X.w X.outer X.H_0 X.s_0 E e s3) E₁ s2) : Tk S X fun c d _ H => E c d H := by
  constructor
  · intro u s2 x
    rw [hx]
    exact wpAny_mono (L2N.XE.leave (E := E) st fr ex (fun _ _ _ _ h => h) x) (fun _ _ h => .inl h) fun _ _ h => h
  · intro u s2 x
    rw [hx]
    exact wpAny_mono (L2.XE.leave (E := fun c d H2 => S c ∧ E c d H2) st fr ex (fun _ _ _ _ h => h) x) (fun _ _ h => .inr h) fun _ _ h => h
theorem tk_never {Y : Cx} : Tk S Y (fun _ _ _ _ => False) := by
  constructor
  · rintro _ _ ⟨_, _, _, _, _, _, _, _, _, _, _, _, _, _, _, _, w⟩
    exact w.elim
  · rintro _ _ ⟨_, _, _, _, _, _, _, _, _, _, _, _, _, _, _, _, w⟩
    exact w.2.elim
end
end Mn
end

section
set_option Elab.async false
set_option linter.all false
set_option maxRecDepth 100000
set_option maxHeartbeats 4000000
namespace Mn
open PySem PySem.Spec PyProof.Rows L2
section
variable {X : Cx} {pins : List (Addr × Obj)} {σ : L2.St} {H : Hp} {s : Shared} {d : Addr} {o : Obj} {xs : List XE}
theorem raw_frz (I : Inv X pins σ H s) (h : H d = some (.frz o (DtO X.w d xs))) : s.heap.get? d = some o ∧ o.ExactDict ∧ ∃ (ys : List YE) (es : Array DictEntry) (ep : Nat), RX xs ys ∧ o.data = .dict es ep ∧ es.toList = ys.map (rawE X.w) := by
  obtain ⟨hd, ⟨ys, o2, es, ep, r, ho, hx, hdt, he⟩, _⟩ := I.hok d _ h
  rw [hd] at ho
  cases ho
  exact ⟨hd, hx, ys, es, ep, r, hdt, he⟩
end
section
variable {X : Cx} {pins : List (Addr × Obj)} {σ : L2.St} {H : Hp} {s : Shared} {a b : Addr} {xs : List XE} {k : NestedKey} {A : Around} {E : Value → Shared → Prop} {o : Obj}
/-- d[k], d locked -/
theorem dz_getItem {Q : Value → Shared → Prop} {v : V} (hu : A.units + 10 < cLine) (I : Inv X pins σ H s) (h : H a = some (.frz o (DtO X.w a xs))) (nd : (xs.map (·.1)).Nodup) (hk : KeysIn X.prog X.w s.heap xs) (kb : (nestedKind X.prog X.w).is s.heap k b) (g : getX xs k = some v)
    (q : ∀ u s2, Inv X pins σ H s2 → RelV v u → Q u s2) : s.TypeIs (.ref a) "dict" ∧ wpAny (model X.prog X.w) A (getItem (.ref a) (.ref b)) Q E s := by
  obtain ⟨hgd, hx, ys, es, ep, r, hdt, he⟩ := raw_frz I h
  have dd : s.heap.DictOfH (nestedKind X.prog X.w) a ys := by
    refine ⟨o, es, ep, hgd, hx, hdt, he, fun y hy => ?_, by rw [← rx_keys r]; exact nd⟩
    obtain ⟨x, hxm, e1, e2⟩ := rx_mem r y hy
    rw [← e1, ← e2]
    exact hk x hxm
  refine ⟨dd.typeIs, ?_⟩
  obtain ⟨u, hu2, ru⟩ := RelO.some_of (v := v) (o := (atKey ys k).map (·.2)) (by rw [← g]; exact rx_get r)
  obtain ⟨p, hp, e⟩ := Option.map_eq_some_iff.mp hu2
  refine wpAny_getItem_heap (room_nk hu) kb dd hp ?_
  rw [e]
  exact q u _ (I.tok _) ru
end
end Mn
end

section
set_option autoImplicit false
set_option linter.all false
set_option maxRecDepth 100000
namespace Mn
def Le (m' m : Hm) : Prop := ∀ a o, m' a = some o → m a = some o
def LeE (r' r : Env) : Prop := r'.length = r.length ∧ ∀ (i : Nat) d, r'[i]? = some (some d) → r[i]? = some (some d)
def lexLt : List Int → List Int → Bool
  | [], [] => false
  | [], _ :: _ => true
  | _ :: _, [] => false
  | x :: xs, y :: ys => if x = y then lexLt xs ys else decide (x < y)
def mergeD (kvs : List (Ky × D)) : List (Ky × D) := kvs.foldl (fun acc kv => putk acc kv.1 kv.2) []
def callX (t : Tab) (d : Dn) : Nat → Nat → CallS := match d.hx with
  | none => fun a c => callH t (a, c) d.n
  | some _ => fun _ _ _ _ _ _ _ _ => False
def sgh (t : Tab) (d : Dn) : Sg := ⟨callD t d, t.ini, t.fld, fun c k => (t.F c k).isSome, fun c => d.hx.isNone && t.ex c, d.hx, callX t d, t.sub⟩
def sg (t : Tab) (n : Nat) : Sg := ⟨callN t n, t.ini, t.fld, fun c k => (t.F c k).isSome, t.ex, none, fun a c => callH t (a, c) n, t.sub⟩
def sgH (t : Tab) (n : Nat) (h : Nat × Nat) : Sg := ⟨callH t h n, t.ini, t.fld, fun c k => (t.F c k).isSome, fun _ => false, some h, fun _ _ _ _ _ _ _ _ => False, t.sub⟩
end Mn
end

section
set_option Elab.async false
set_option linter.all false
set_option maxRecDepth 100000
set_option maxHeartbeats 4000000
namespace Mn
open PySem PySem.Spec PyProof.Rows L2
theorem toS_len (s : List Nat) : (toS s).length = s.length := by simp [toS, Str.length]
theorem toS_list (s : List Nat) : (toS s).cps.toList = s := by simp [toS]
theorem SZ_line {n : Nat} (h : n ≤ SZ) : n ≤ sizeLine := by rw [sizeLine_eq]; exact h
theorem SZ_lt {n : Nat} (h : n < SZ) : n < sizeLine := by rw [sizeLine_eq]; exact h
theorem SqU.sq {F : PySem.W.Frag} {H : Hp} {a : Addr} {vs : List V} (h : SqU F H a vs) : SqT F H a vs := by
  rcases h with ⟨o, h, _⟩ | ⟨o, its, n, h1, h2, _, h3⟩
  · exact .inl (.inr ⟨o, h⟩)
  · exact .inr ⟨o, its, n, h1, h2, h3⟩
theorem FzL.sq {F : PySem.W.Frag} {H : Hp} {a : Addr} {vs : List V} (h : FzL F H a vs) : SqL F H a vs := by
  rcases h with ⟨o, h⟩ | h
  · exact .inl (.inr ⟨o, h⟩)
  · exact .inr h
theorem Kp.refl (H : Hp) : Kp H H := ⟨fun _ _ h => h, fun _ _ _ h => h⟩
theorem Kp.trans {H H1 H2 : Hp} (a : Kp H H1) (b : Kp H1 H2) : Kp H H2 := ⟨fun c x h => b.tu c x (a.tu c x h), fun c x u h => b.fz c x u (a.fz c x u h)⟩
theorem Kp.new {H : Hp} {p : Addr} {o : HO} (hp : H p = none) : Kp H (upd H p o) :=
  ⟨fun b xs h => by rw [upd_ne (ne_of_none h hp)]; exact h, fun b x u h => by rw [upd_ne (ne_of_none h hp)]; exact h⟩
/-- an object that is no tuple and not locked is written -/
def Wr : HO → Prop
  | .tup _ => False
  | .frz _ _ => False
  | _ => True
theorem Kp.over {H : Hp} {p : Addr} {o u : HO} (hp : H p = some u) (hw : Wr u) : Kp H (upd H p o) :=
  ⟨fun b xs h => by
    rw [upd_ne (ne_of h hp (by rintro rfl; exact hw))]; exact h, fun b x w h => by
    rw [upd_ne (ne_of h hp (by rintro rfl; exact hw))]; exact h⟩
theorem SqU.mono {F : PySem.W.Frag} {H H2 : Hp} {a : Addr} {vs : List V} (h : SqU F H a vs) (k : Kp H H2) : SqU F H2 a vs := by
  rcases h with ⟨o, h, d⟩ | h
  · exact .inl ⟨o, k.fz _ _ _ h, d⟩
  · exact .inr h
theorem FzL.mono {F : PySem.W.Frag} {H H2 : Hp} {a : Addr} {vs : List V} (h : FzL F H a vs) (k : Kp H H2) : FzL F H2 a vs := by
  rcases h with ⟨o, h⟩ | h
  · exact .inl ⟨o, k.fz _ _ _ h⟩
  · exact .inr h
section
variable {F : PySem.W.Frag} {H H2 : Hp}
mutual
theorem Rp.mono (k : Kp H H2) : ∀ {d : D} {v : V}, Rp F H d v → Rp F H2 d v
  | _, _, .non => .non
  | _, _, .bl b => .bl b
  | _, _, .int i => .int i
  | _, _, .str s => .str s
  | _, _, .tup h r => .tup (h.mono k) (Rps.mono k r)
  | _, _, .lst h r => .lst (h.mono k) (Rps.mono k r)
  | _, _, .ref a => .ref a
  | _, _, .exc a c => .exc a c
theorem Rps.mono (k : Kp H H2) : ∀ {ds : List D} {vs : List V}, Rps F H ds vs → Rps F H2 ds vs
  | _, _, .nil => .nil
  | _, _, .cons a b => .cons (Rp.mono k a) (Rps.mono k b)
end
theorem SqU.monoW {F : PySem.W.Frag} {H H2 : Hp} {a : Addr} {vs : List V} (h : SqU F H a vs) (k : Kw H H2) : SqU F H2 a vs := by
  rcases h with ⟨o, h, d⟩ | h
  · exact .inl ⟨o, k.fz _ _ _ (fun _ z => nomatch z) (fun _ z => nomatch z) h, d⟩
  · exact .inr h
theorem FzL.monoW {F : PySem.W.Frag} {H H2 : Hp} {a : Addr} {vs : List V} (h : FzL F H a vs) (k : Kw H H2) : FzL F H2 a vs := by
  rcases h with ⟨o, h⟩ | h
  · exact .inl ⟨o, k.fz _ _ _ (fun _ z => nomatch z) (fun _ z => nomatch z) h⟩
  · exact .inr h
mutual
theorem Rp.monoW (k : Kw H H2) : ∀ {d : D} {v : V}, Rp F H d v → Rp F H2 d v
  | _, _, .non => .non
  | _, _, .bl b => .bl b
  | _, _, .int i => .int i
  | _, _, .str s => .str s
  | _, _, .tup h r => .tup (h.monoW k) (Rps.monoW k r)
  | _, _, .lst h r => .lst (h.monoW k) (Rps.monoW k r)
  | _, _, .ref a => .ref a
  | _, _, .exc a c => .exc a c
theorem Rps.monoW (k : Kw H H2) : ∀ {ds : List D} {vs : List V}, Rps F H ds vs → Rps F H2 ds vs
  | _, _, .nil => .nil
  | _, _, .cons a b => .cons (Rp.monoW k a) (Rps.monoW k b)
end
theorem Rps.length : ∀ {ds : List D} {vs : List V}, Rps F H ds vs → ds.length = vs.length
  | _, _, .nil => rfl
  | _, _, .cons _ b => by simp [Rps.length b]
theorem Rps.get : ∀ {ds : List D} {vs : List V} {i : Nat} {d : D}, Rps F H ds vs → ds[i]? = some d → ∃ v, vs[i]? = some v ∧ Rp F H d v
  | _, _, _, _, .nil, e => by simp at e
  | _, _, 0, _, .cons a b, e => by simp at e; subst e; exact ⟨_, rfl, a⟩
  | _, _, i + 1, d, .cons a b, e => by
    obtain ⟨v, h1, h2⟩ := Rps.get (i := i) (d := d) b (by simpa using e)
    exact ⟨v, by simpa using h1, h2⟩
theorem Rps.append : ∀ {ds es : List D} {vs ws : List V}, Rps F H ds vs → Rps F H es ws → Rps F H (ds ++ es) (vs ++ ws)
  | _, _, _, _, .nil, s => s
  | _, _, _, _, .cons a b, s => .cons a (Rps.append b s)
theorem Rps.take : ∀ {ds : List D} {vs : List V} (n : Nat), Rps F H ds vs → Rps F H (ds.take n) (vs.take n)
  | _, _, 0, _ => .nil
  | _, _, _ + 1, .nil => .nil
  | _, _, n + 1, .cons a b => .cons a (Rps.take n b)
theorem Rps.drop : ∀ {ds : List D} {vs : List V} (n : Nat), Rps F H ds vs → Rps F H (ds.drop n) (vs.drop n)
  | _, _, 0, r => r
  | _, _, _ + 1, .nil => .nil
  | _, _, n + 1, .cons _ b => Rps.drop n b
theorem Rps.set {d : D} {v : V} (r : Rp F H d v) : ∀ {ds : List D} {vs : List V} (i : Nat), Rps F H ds vs → Rps F H (ds.set i d) (vs.set i v)
  | _, _, _, .nil => .nil
  | _, _, 0, .cons _ b => .cons r b
  | _, _, i + 1, .cons a b => .cons a (Rps.set r i b)
theorem Rps.eraseIdx : ∀ {ds : List D} {vs : List V} (i : Nat), Rps F H ds vs → Rps F H (ds.eraseIdx i) (vs.eraseIdx i)
  | _, _, _, .nil => .nil
  | _, _, 0, .cons _ b => b
  | _, _, i + 1, .cons a b => .cons a (Rps.eraseIdx i b)
theorem Rps.dropLast {ds : List D} {vs : List V} (r : Rps F H ds vs) : Rps F H ds.dropLast vs.dropLast := by
  rw [List.dropLast_eq_take, List.dropLast_eq_take, r.length]
  exact r.take _
theorem Rps.reverse : ∀ {ds : List D} {vs : List V}, Rps F H ds vs → Rps F H ds.reverse vs.reverse
  | _, _, .nil => .nil
  | _, _, .cons a b => by
    rw [List.reverse_cons, List.reverse_cons]
    exact (Rps.reverse b).append (.cons a .nil)
theorem Rps.rep {ds : List D} {vs : List V} (h : Rps F H ds vs) : ∀ k : Nat, Rps F H (repD ds k) (List.replicate k vs).flatten
  | 0 => .nil
  | k + 1 => by
    unfold repD
    rw [List.replicate_succ, List.replicate_succ, List.flatten_cons, List.flatten_cons]
    exact h.append (Rps.rep h k)
theorem Rps.ints : ∀ {ds : List D} {vs : List V} {ns : List Int}, Rps F H ds vs → intsOf ds = some ns → vs = ns.map V.int
  | _, _, ns, .nil, e => by simp [intsOf] at e; subst e; rfl
  | d :: ds, _, ns, .cons a b, e => by
    cases d with
    | int i =>
      simp only [intsOf] at e
      cases q : intsOf ds with
      | none => rw [q] at e; cases e
      | some r =>
        rw [q] at e
        cases e
        cases a
        rw [List.map_cons, Rps.ints b q]
    | _ => simp [intsOf] at e
theorem Rps.bls : ∀ {ds : List D} {vs : List V} {ns : List Bool}, Rps F H ds vs → blsOf ds = some ns → vs = ns.map V.bl
  | _, _, ns, .nil, e => by simp [blsOf] at e; subst e; rfl
  | d :: ds, _, ns, .cons a b, e => by
    cases d with
    | bl i =>
      simp only [blsOf] at e
      cases q : blsOf ds with
      | none => rw [q] at e; cases e
      | some r =>
        rw [q] at e
        cases e
        cases a
        rw [List.map_cons, Rps.bls b q]
    | _ => simp [blsOf] at e
theorem Rps.strs : ∀ {ds : List D} {vs : List V} {ns : List (List Nat)}, Rps F H ds vs → strsOf ds = some ns → vs = ns.map fun s => V.str (toS s)
  | _, _, ns, .nil, e => by simp [strsOf] at e; subst e; rfl
  | d :: ds, _, ns, .cons a b, e => by
    cases d with
    | str i =>
      simp only [strsOf] at e
      cases q : strsOf ds with
      | none => rw [q] at e; cases e
      | some r =>
        rw [q] at e
        cases e
        cases a
        rw [List.map_cons, Rps.strs b q]
    | _ => simp [strsOf] at e
theorem Rps.mkInts : ∀ (ns : List Int), Rps F H (ns.map D.int) (ns.map V.int)
  | [] => .nil
  | n :: ns => .cons (.int n) (Rps.mkInts ns)
end
theorem KvR.mono {κ ι : Type} {F : PySem.W.Frag} {H H2 : Hp} {inj : κ → ι} {a : List (κ × D)} {b : List (ι × V)} (r : KvR F H inj a b) (k : Kp H H2) : KvR F H2 inj a b :=
  Paired.mapP r fun _ _ h => ⟨h.1, h.2.mono k⟩
theorem DtR.mono {F : PySem.W.Frag} {H H2 : Hp} {a : List (List D × D)} {b : List XE} (r : DtR F H a b) (k : Kp H H2) : DtR F H2 a b := Paired.mapP r fun _ _ h => ⟨h.1, h.2.1, h.2.2.1.mono k, h.2.2.2.mono k⟩
section
variable {L : Lk} {m : Hm} {H H2 : Hp} {p a : Addr}
theorem up_same {o : MO} : up m p o p = some o := by unfold up; rw [if_pos rfl]
theorem up_ne {o : MO} (h : a ≠ p) : up m p o a = m a := by unfold up; rw [if_neg h]
theorem CellR.there {o : MO} (h : CellR L H a o) : H a ≠ none := by
  cases o with
  | lst ds => obtain ⟨_, e, _⟩ := h; rw [e]; simp
  | dK ds => obtain ⟨_, e, _⟩ := h; rw [e]; simp
  | dT ds => obtain ⟨_, e, _⟩ := h; rw [e.on]; simp
  | ins c fs => obtain ⟨_, _, _, _, e, _⟩ := h; rw [e]; simp
  | set ds => exact h.elim
  | exc ds => exact h.elim
  | fz ds => obtain ⟨_, _, e, _⟩ := h; rw [e]; simp
  | fzT ds => obtain ⟨_, _, e, _⟩ := h; rw [e]; simp
theorem CellR.other {o : MO} (h : CellR L H a o) (k : Kp H H2) (e : H2 a = H a) : CellR L H2 a o := by
  cases o with
  | lst ds => obtain ⟨vs, q, r⟩ := h; exact ⟨vs, e.trans q, r.mono k⟩
  | dK ds => obtain ⟨vs, q, r⟩ := h; exact ⟨vs, e.trans q, r.mono k⟩
  | dT ds => obtain ⟨vs, q, r⟩ := h; exact ⟨vs, ⟨e.trans q.on, q.sys, q.nd, q.sz⟩, r.mono k⟩
  | ins c fs => obtain ⟨C, dx, gs, hc, q, r, z⟩ := h; exact ⟨C, dx, gs, hc, e.trans q, r.mono k, z⟩
  | set ds => exact h.elim
  | exc ds => exact h.elim
  | fz ds => obtain ⟨od, vs, q, r⟩ := h; exact ⟨od, vs, e.trans q, r.mono k⟩
  | fzT ds => obtain ⟨od, vs, q, f, r⟩ := h; exact ⟨od, vs, e.trans q, f, r.mono k⟩
theorem KvR.monoW {κ ι : Type} {F : PySem.W.Frag} {H H2 : Hp} {inj : κ → ι} {a : List (κ × D)} {b : List (ι × V)} (r : KvR F H inj a b) (k : Kw H H2) : KvR F H2 inj a b :=
  Paired.mapP r fun _ _ h => ⟨h.1, h.2.monoW k⟩
theorem DtR.monoW {F : PySem.W.Frag} {H H2 : Hp} {x : List (List D × D)} {y : List XE} (r : DtR F H x y) (k : Kw H H2) : DtR F H2 x y :=
  Paired.mapP r fun _ _ h => ⟨h.1, h.2.1, h.2.2.1.monoW k, h.2.2.2.monoW k⟩
theorem CellR.otherW {o : MO} (h : CellR L H a o) (k : Kw H H2) (e : H2 a = H a) : CellR L H2 a o := by
  cases o with
  | lst ds => obtain ⟨vs, q, r⟩ := h; exact ⟨vs, e.trans q, r.monoW k⟩
  | dK ds => obtain ⟨vs, q, r⟩ := h; exact ⟨vs, e.trans q, r.monoW k⟩
  | dT ds => obtain ⟨vs, q, r⟩ := h; exact ⟨vs, ⟨e.trans q.on, q.sys, q.nd, q.sz⟩, Paired.mapP r fun _ _ h => ⟨h.1, h.2.1, h.2.2.1.monoW k, h.2.2.2.monoW k⟩⟩
  | ins c fs => obtain ⟨C, dx, gs, hc, q, r, z⟩ := h; exact ⟨C, dx, gs, hc, e.trans q, r.monoW k, z⟩
  | set ds => exact h.elim
  | exc ds => exact h.elim
  | fz ds => obtain ⟨od, vs, q, r⟩ := h; exact ⟨od, vs, e.trans q, r.monoW k⟩
  | fzT ds => obtain ⟨od, vs, q, f, r⟩ := h; exact ⟨od, vs, e.trans q, f, DtR.monoW r k⟩
/-- a dict locked, unlocked -/
theorem Kp.lock {p : Addr} {o : HO} {kws : List (Key × V)} (hp : H p = some (.dK kws)) : Kp H (upd H p o) := .over hp trivial
theorem Kw.unlock {p : Addr} {od : Obj} {kws : List (Key × V)} {o : HO} (hp : H p = some (.frz od (.dK kws))) : Kw H (upd H p o) := ⟨fun b x u hn _ h => by
  rw [upd_ne fun z => by subst z; rw [hp] at h; cases h; exact hn kws rfl]
  exact h⟩
theorem Kp.through {p : Addr} {od : Obj} {kws : List (Key × V)} {o : HO} (hp : H p = some (.dK kws)) (k : Kp (upd H p (.frz od (.dK kws))) H2) : Kp H (upd H2 p o) :=
  ⟨fun b xs h => by
    have ne : b ≠ p := fun z => by subst z; rw [hp] at h; cases h
    rw [upd_ne ne]
    exact k.tu b xs (by rw [upd_ne ne]; exact h), fun b x u h => by
    have ne : b ≠ p := fun z => by subst z; rw [hp] at h; cases h
    rw [upd_ne ne]
    exact k.fz b x u (by rw [upd_ne ne]; exact h)⟩
theorem Rel.unlock {m2 : Hm} {p : Addr} {od : Obj} {kvs : List (Ky × D)} {kws : List (Key × V)} (rel : Rel L m2 H2) (hp : H2 p = some (.frz od (.dK kws))) (r : KvR L.F H2 kyV kvs kws) : Rel L (up m2 p (.dK kvs)) (upd H2 p (.dK kws)) := fun a q e => by
  by_cases h : a = p
  · subst h; rw [up_same] at e; cases e; exact ⟨kws, upd_same, r.monoW (.unlock hp)⟩
  · rw [up_ne h] at e
    exact (rel a q e).otherW (.unlock hp) (upd_ne h)
theorem Rel.lock {p : Addr} {od : Obj} {kvs : List (Ky × D)} {kws : List (Key × V)} (rel : Rel L m H) (hp : H p = some (.dK kws)) (r : KvR L.F H kyV kvs kws) : Rel L (up m p (.fz kvs)) (upd H p (.frz od (.dK kws))) := fun a q e => by
  have k : Kp H (upd H p (.frz od (.dK kws))) := .lock hp
  by_cases h : a = p
  · subst h; rw [up_same] at e; cases e; exact ⟨od, kws, upd_same, r.mono k⟩
  · rw [up_ne h] at e
    exact (rel a q e).other k (upd_ne h)
theorem Rel.le {m2 : Hm} (r : Rel L m H) (h : Le m2 m) : Rel L m2 H := fun a o e => r a o (h a o e)
theorem Rel.free (r : Rel L m H) (hp : H p = none) : m p = none := by
  cases e : m p with
  | none => rfl
  | some o => exact absurd hp (r p o e).there
theorem Rel.hide {o : HO} (r : Rel L m H) (hp : H p = none) : Rel L m (upd H p o) := fun a q e =>
  (r a q e).other (.new hp) (upd_ne fun z => (r a q e).there (by rw [z]; exact hp))
theorem Rel.put {o : MO} {u : HO} (r : Rel L m H) (k : Kp H (upd H p u)) (c : CellR L (upd H p u) p o) : Rel L (up m p o) (upd H p u) := fun a q e => by
  by_cases h : a = p
  · subst h; rw [up_same] at e; cases e; exact c
  · rw [up_ne h] at e
    exact (r a q e).other k (upd_ne h)
theorem Le.refl (m : Hm) : Le m m := fun _ _ h => h
end
section
variable {L : Lk} {m : Hm} {H H2 : Hp} {P : PD} {Q : VK}
theorem Kt.mono (q : Kt L H P Q) (k : Kp H H2) : Kt L H2 P Q := fun d m v H3 h r rel k3 => q d m v H3 h r rel (k.trans k3)
theorem Kt.here {d : D} {v : V} (q : Kt L H P Q) (h : P d m) (r : Rp L.F H d v) (rel : Rel L m H) : Q v H := q d m v H h r rel (.refl H)
/-- a new tuple -/
theorem Kt.tup {ds : List D} {vs : List V} (q : Kt L H P Q) (h : P (.tup ds) m) (r : Rps L.F H ds vs) (rel : Rel L m H) : NewT H vs Q := fun p o hp hd =>
  q _ _ _ _ h (.tup (.inl ⟨o, upd_same, hd⟩) (r.mono (.new hp))) (rel.hide hp) (.new hp)
theorem Kt.lst {ds : List D} {vs : List V} {p : Addr} (q : Kt L H P Q) (h : newO m (.lst ds) P) (r : Rps L.F H ds vs) (rel : Rel L m H) (hp : H p = none) : Q (.ref p) (upd H p (.lst vs)) :=
  q _ _ _ _ (h p (rel.free hp)) (.ref p) (rel.put (.new hp) ⟨vs, upd_same, r.mono (.new hp)⟩) (.new hp)
/-- a list changed -/
theorem Rel.lst {ds : List D} {vs ws : List V} {p : Addr} (rel : Rel L m H) (hp : H p = some (.lst ws)) (r : Rps L.F H ds vs) : Rel L (up m p (.lst ds)) (upd H p (.lst vs)) :=
  rel.put (.over hp trivial) ⟨vs, upd_same, r.mono (.over hp trivial)⟩
end
section
variable {X : Cx} {L : Lk} {m : Hm} {H : Hp} {P : PD} {Q : VK} {x y : D} {v u : V}
def rAddB : R2 := fun x y H Q => (∃ i k, x = .int i ∧ y = .bl k ∧ Q (.int (i + b2i k)) H) ∨ ∃ k i, x = .bl k ∧ y = .int i ∧ Q (.int ((if k = true then (1 : Int) else 0) + i)) H
theorem op_add_bi : OpR X (binaryOp .Add) (fun x y H Q => ∃ k i, x = .bl k ∧ y = .int i ∧ Q (.int ((if k = true then (1 : Int) else 0) + i)) H) := by
  intro pins s σ H x y v u Q I rx ry h
  obtain ⟨k, i, rfl, rfl, q⟩ := h
  obtain ⟨t, rfl⟩ := ry
  cases rx
  exact PySem.IntBool.add_bool_int ⟨.int _, H, I.tok _, ⟨_, rfl⟩, q⟩
theorem op_sub_bi : OpR X (binaryOp .Sub) (fun x y H Q => ∃ k i, x = .bl k ∧ y = .int i ∧ Q (.int ((if k = true then (1 : Int) else 0) - i)) H) := by
  intro pins s σ H x y v u Q I rx ry h
  obtain ⟨k, i, rfl, rfl, q⟩ := h
  obtain ⟨t, rfl⟩ := ry
  cases rx
  exact PySem.IntBool.sub_bool_int ⟨.int _, H, I.tok _, ⟨_, rfl⟩, q⟩
def rAddU (F : PySem.W.Frag) : R2 := fun x y H Q => rI0 (fun i j => .int (i + j)) x y H Q ∨ (∃ i j, x = .str i ∧ y = .str j ∧ i.length + j.length ≤ sizeLine ∧ Q (.str (i ++ j)) H) ∨ rCatZ F x y H Q ∨ rCat x y H Q ∨ rAddB x y H Q
theorem op_addU : OpR X (binaryOp .Add) (rAddU X.K) := op_add.or (op_add_str.or (op_catZ.or (op_cat.or (op_add_ib.or op_add_bi))))
def rSubU : R2 := fun x y H Q => rI0 (fun i j => .int (i - j)) x y H Q ∨ ∃ k i, x = .bl k ∧ y = .int i ∧ Q (.int ((if k = true then (1 : Int) else 0) - i)) H
theorem op_subU : OpR X (binaryOp .Sub) rSubU := op_sub.or op_sub_bi
theorem fold_rep (s : List Nat) : ∀ (n : Nat) (acc : List Nat), (List.replicate n s.toArray).foldl (· ++ ·) acc.toArray = (acc ++ (List.replicate n s).flatten).toArray
  | 0, acc => by simp
  | n + 1, acc => by
    rw [List.replicate_succ, List.foldl_cons, List.replicate_succ, List.flatten_cons, ← List.append_assoc, ← fold_rep s n (acc ++ s)]
    simp
def rRepS : R2 := fun x y H Q => ∃ s k, x = .str (toS s) ∧ y = .int k ∧ (-(2 ^ 63) ≤ k ∧ k < 2 ^ 63) ∧ s.length * k.toNat ≤ SZ ∧ Q (.str (toS (repD s k.toNat))) H
theorem op_repS : OpR X (binaryOp .Mult) rRepS := by
  intro pins st σ H x y v u Q I rx ry h
  obtain ⟨s, k, rfl, rfl, ⟨h1, h2⟩, hz, q⟩ := h
  obtain ⟨t, rfl⟩ := rx
  obtain ⟨t', rfl⟩ := ry
  have hlen : (toS s).length = s.length := toS_len s
  have fin : ∀ (w : Str) (t2 : Tok) (tk : Nat), w = toS (repD s k.toNat) → EP X pins σ Q (.str w t2) { st with toks := tk } := fun w t2 tk e => by
    subst e
    exact ⟨.str _, H, I.tok _, ⟨_, rfl⟩, q⟩
  refine PySem.P.mul_str ?_ (fun h3 h4 => ?_) (fun h3 h4 => ?_) ?_
  · rw [decide_eq_false (by omega), decide_eq_false (by omega)]; rfl
  · rw [hlen]
    have hk : 0 < k := by omega
    have hs : (s.length : Int) * k ≤ 16777216 := by
      have e : ((s.length * k.toNat : Nat) : Int) = (s.length : Int) * k := by rw [Int.natCast_mul, Int.toNat_of_nonneg (by omega)]
      have hz2 : s.length * k.toNat ≤ 16777216 := hz
      omega
    have := (Int.le_ediv_iff_mul_le (a := (s.length : Int)) (b := 2 ^ 63 - 1) hk).mpr (by omega)
    omega
  · rw [hlen]
    exact decide_eq_false (by rw [sizeLine_eq]; have : s.length * k.toNat ≤ 16777216 := hz; omega)
  · have empty : Str.empty = toS [] := rfl
    split
    · have e : k.toNat = 0 := by omega
      refine ⟨?_, fin _ _ _ ?_⟩
      · exact Nat.zero_le _
      · rw [e]; rfl
    · split
      · rename_i h3 h4
        refine fin _ _ _ ?_
        rw [Bool.or_eq_true, beq_iff_eq, beq_iff_eq, hlen] at h4
        rcases h4 with h4 | h4
        · subst h4
          simp [repD]
        · have e : s = [] := by simpa using h4
          subst e
          simp [repD]
      · have e : (⟨(List.replicate k.toNat (toS s).cps).foldl (· ++ ·) #[]⟩ : Str) = toS (repD s k.toNat) := by
          have := fold_rep s k.toNat []
          rw [List.nil_append] at this
          exact congrArg Str.mk this
        refine ⟨?_, fin _ _ _ e⟩
        rw [e, toS_len]
        have e2 : (repD s k.toNat).length = k.toNat * s.length := by simp [repD]
        rw [e2, Nat.mul_comm]
        exact SZ_line hz
def rMulU (F : PySem.W.Frag) : R2 := fun x y H Q => rI CMul (fun i j => .int (i * j)) x y H Q ∨ rRep x y H Q ∨ rI CMulW (fun i j => .int (i * j)) x y H Q ∨ rRepS x y H Q ∨ rRepZ F x y H Q ∨ rRepZ0 F x y H Q
theorem op_mulU : OpR X (binaryOp .Mult) (rMulU X.K) := op_mul.or (op_rep.or (op_mulW.or (op_repS.or (op_repZ.or op_repZ0))))
def rDivU : R2 := fun x y H Q => rI CDivN (fun i j => .int (i.fdiv j)) x y H Q ∨ rI CDivW (fun i j => .int (i / j)) x y H Q
theorem op_fdivU : OpR X (binaryOp .FloorDiv) rDivU := op_fdivN.or op_fdivW
def binR (F : PySem.W.Frag) : Bop → R2
  | .add => rAddU F
  | .sub => rSubU
  | .mul => rMulU F
  | .fdiv => rDivU
  | .mod => rI (fun _ j => j ≠ 0) fun i j => .int (i.fmod j)
  | .pow => rI CPow fun i j => .int (i ^ j.toNat)
theorem binS : ∀ op : Bop, OpR X (binaryOp (bopO op)) (binR X.K op)
  | .add => op_addU
  | .sub => op_subU
  | .mul => op_mulU
  | .fdiv => op_fdivU
  | .mod => op_modN
  | .pow => op_pow
theorem toS_app (s t : List Nat) : toS s ++ toS t = toS (s ++ t) := by
  show Str.append _ _ = _
  simp [toS, Str.append]
theorem bin_ok {op : Bop} (h : binW op x y m P) (rx : Rp L.F H x v) (ry : Rp L.F H y u) (rel : Rel L m H) (q : Kt L H P Q) : binR L.F op v u H Q := by
  cases op with
  | add =>
    cases rx with
    | int i => cases ry with
      | int j => exact .inl ⟨i, j, rfl, rfl, q.here h (.int _) rel⟩
      | bl k => exact .inr (.inr (.inr (.inr (.inl ⟨i, k, rfl, rfl, by
          have h2 : P (.int (i + (if k then 1 else 0))) m := h
          have e : b2i k = if k then 1 else 0 := by cases k <;> rfl
          rw [e]
          exact q.here h2 (.int _) rel⟩))))
      | _ => exact h.elim
    | bl k => cases ry with
      | int i => exact .inr (.inr (.inr (.inr (.inr ⟨k, i, rfl, rfl, q.here h (.int _) rel⟩))))
      | _ => exact h.elim
    | str s => cases ry with
      | str t => 
        refine .inr (.inl ⟨_, _, rfl, rfl, by rw [toS_len, toS_len]; exact SZ_line h.1, ?_⟩)
        rw [toS_app]
        exact q.here h.2 (.str _) rel
      | _ => exact h.elim
    | @tup ds a vs sa ra => cases ry with
      | @tup es b ws sb rb =>
        refine .inr (.inr (.inl ⟨a, b, vs, ws, rfl, rfl, sa.sq, sb.sq, by rw [← ra.length, ← rb.length]; exact SZ_line h.1, fun e => ?_, fun e1 e2 => ?_, fun e1 e2 => ?_⟩))
        · subst e
          cases ra
          exact q.here h.2 (.tup sb rb) rel
        · subst e2
          cases rb
          have h2 := h.2
          rw [List.append_nil] at h2
          exact q.here h2 (.tup sa ra) rel
        · exact q.tup h.2 (ra.append rb) rel
      | _ => exact h.elim
    | ref a => cases ry with
      | ref b =>
        have h : (match m a, m b with | some (.lst xs), some (.lst ys) => xs.length + ys.length ≤ SZ ∧ newO m (.lst (xs ++ ys)) P | _, _ => False) := h
        split at h
        · rename_i xs ys ea eb
          obtain ⟨vs, ha, ra⟩ := rel _ _ ea
          obtain ⟨ws, hb, rb⟩ := rel _ _ eb
          exact .inr (.inr (.inr (.inl ⟨a, b, vs, ws, rfl, rfl, ha, hb, by rw [← ra.length, ← rb.length]; exact SZ_line h.1, fun p hp => q.lst h.2 (ra.append rb) rel hp⟩)))
        · exact h.elim
      | _ => exact h.elim
    | _ => exact h.elim
  | sub =>
    cases rx with
    | int i => cases ry with
      | int j => exact .inl ⟨i, j, rfl, rfl, q.here h (.int _) rel⟩
      | _ => exact h.elim
    | bl k => cases ry with
      | int i => exact .inr ⟨k, i, rfl, rfl, q.here h (.int _) rel⟩
      | _ => exact h.elim
    | _ => cases h
  | mul =>
    cases rx with
    | str s =>
      cases ry with
      | int k => exact .inr (.inr (.inr (.inl ⟨s, k, rfl, rfl, h.1, h.2.1, q.here h.2.2 (.str _) rel⟩)))
      | _ => exact h.elim
    | int i => cases ry with
      | int j =>
        have h2 := of_decide_eq_true (show decide _ = true from h.1)
        rcases h2 with h2 | h2 | h2
        · exact .inl ⟨i, j, rfl, rfl, .inl h2, q.here h.2 (.int _) rel⟩
        · exact .inl ⟨i, j, rfl, rfl, .inr h2, q.here h.2 (.int _) rel⟩
        · exact .inr (.inr (.inl ⟨i, j, rfl, rfl, h2, q.here h.2 (.int _) rel⟩))
      | _ => exact h.elim
    | ref a => cases ry with
      | int k =>
        have h : (match m a with | some (.lst xs) => (-(2 ^ 63) ≤ k ∧ k < 2 ^ 63) ∧ xs.length * k.toNat ≤ SZ ∧ newO m (.lst (repD xs k.toNat)) P | _ => False) := h
        split at h
        · rename_i xs ea
          obtain ⟨vs, ha, ra⟩ := rel _ _ ea
          exact .inr (.inl ⟨a, k, vs, rfl, rfl, ha, h.1.1, h.1.2, by rw [← ra.length]; exact SZ_line h.2.1, fun p hp => q.lst h.2.2 (ra.rep _) rel hp⟩)
        · exact h.elim
      | _ => exact h.elim
    | @tup ds a vs sa ra => cases ry with
      | int k =>
        obtain ⟨h1, h2, h3, h6, h4, h5⟩ := h
        have h7 : vs ≠ [] := fun e => h1 (by subst e; cases ra; rfl)
        by_cases hk : k ≤ 0
        · have e : k.toNat = 0 := by omega
          rw [e] at h5
          exact .inr (.inr (.inr (.inr (.inr ⟨a, k, vs, rfl, rfl, sa.sq, h7, h2, hk, q.tup h5 .nil rel⟩))))
        · exact .inr (.inr (.inr (.inr (.inl ⟨a, k, vs, rfl, rfl, sa.sq, h7, by omega, h3, by rw [← ra.length]; exact h4, q.tup h5 (ra.rep _) rel⟩))))
      | _ => exact h.elim
    | _ => cases h
  | fdiv =>
    cases rx with
    | int i => cases ry with
      | int j =>
        obtain ⟨⟨h0, h1⟩, h2⟩ := h
        rcases h1 with h1 | h1
        · exact .inl ⟨i, j, rfl, rfl, ⟨h0, h1⟩, q.here h2 (.int _) rel⟩
        · refine .inr ⟨i, j, rfl, rfl, h1, ?_⟩
          have e := Int.fdiv_eq_ediv_of_nonneg i (show 0 ≤ j by omega)
          show Q (.int (i / j)) H
          rw [← e]
          exact q.here h2 (.int _) rel
      | _ => exact h.elim
    | _ => cases h
  | mod =>
    cases rx with
    | int i => cases ry with
      | int j => exact ⟨i, j, rfl, rfl, h.1, q.here h.2 (.int _) rel⟩
      | _ => exact h.elim
    | _ => cases h
  | pow =>
    cases rx with
    | int i => cases ry with
      | int j => exact ⟨i, j, rfl, rfl, h.1, q.here h.2 (.int _) rel⟩
      | _ => exact h.elim
    | _ => cases h
end
end Mn
end

section
set_option Elab.async false
set_option linter.all false
set_option maxRecDepth 100000
set_option maxHeartbeats 4000000
end

section
set_option Elab.async false
set_option linter.all false
set_option maxRecDepth 100000
set_option maxHeartbeats 4000000
end

section
set_option Elab.async false
set_option linter.all false
set_option maxRecDepth 100000
set_option maxHeartbeats 4000000
namespace Mn
open PySem PySem.Spec PyProof.Rows L2 TL
theorem splT_eq (S : List Nat) : ∀ (l : List Nat) (k : Nat) (acc : List Nat), splT S k acc l = spl S k acc l
  | [], k, acc => by cases k <;> rfl
  | c :: r, 0, acc => by
    show (if preT S (c :: r) = true then acc :: splT S (S.length - 1) [] r else splT S 0 (acc ++ [c]) r) = (if pre S (c :: r) = true then acc :: spl S (S.length - 1) [] r else spl S 0 (acc ++ [c]) r)
    rw [splT_eq S r, splT_eq S r]
    rfl
  | c :: r, k + 1, acc => splT_eq S r k acc
theorem parT_eq (S : List Nat) : ∀ (l acc : List Nat), parT S acc l = par S acc l
  | [], acc => rfl
  | c :: r, acc => by
    show (if preT S (c :: r) = true then some (acc, (c :: r).drop S.length) else parT S (acc ++ [c]) r) = (if pre S (c :: r) = true then some (acc, (c :: r).drop S.length) else par S (acc ++ [c]) r)
    rw [parT_eq S r]
    rfl
section
variable {X : Cx} {pins : List (Addr × Obj)} {σ : L2.St} {H : Hp} {s : Shared} {Q : VK}
theorem laid_partsZ {x y z : Str} {t u v : Tok} {k : Nat} (I : Inv X pins σ H s) (h : NewT H [.str x, .str y, .str z] Q) :
    EP X pins σ Q (.ref s.heap.objs.size) { s with toks := k, heap := s.heap.push { cls := .type "tuple", data := .seq [Value.str x t, .str y u, .str z v].toArray } } :=
  ⟨.ref s.heap.objs.size, upd H s.heap.objs.size (.frz { cls := .type "tuple", data := .seq [Value.str x t, .str y u, .str z v].toArray } (.tup [.str x, .str y, .str z])), I.laid (fun b w q => Heap.get?_push_of_some _ q) (Nat.le_refl _)
    (solid_obj (its := [Value.str x t, .str y u, .str z v]) (Heap.get?_push_size _ rfl) rfl rfl (.cons ⟨t, rfl⟩ (.cons ⟨u, rfl⟩ (.cons ⟨v, rfl⟩ .nil))) (by show 3 ≤ sizeLine; decide)), rfl, h _ _ (I.hok.fresh (Nat.le_refl _)) rfl⟩
end
def rPartZ : V → List V → Hp → VK → Prop := fun x xs H Q => ∃ a b, x = .str a ∧ xs = [.str b] ∧ (b.length == 0) = false ∧ a.length ≤ sizeLine ∧ NewT H [.str (Txt.partition a b).1, .str (Txt.partition a b).2.1, .str (Txt.partition a b).2.2] Q
theorem mt_partZ {X : Cx} : MtR X "str.partition" rPartZ := by
  intro pins s σ H x xs v us Q I rx rs h
  obtain ⟨a, b, rfl, rfl, hb, hz, h⟩ := h
  obtain ⟨t, rfl⟩ := rx
  cases rs with
  | cons r1 rs =>
    cases rs
    obtain ⟨u, rfl⟩ := r1
    refine call_meets F.slot_str_partition (typeIs_str _ _ _) F.entry_str_partition (F.args_str_partition_2 _ _) (meets_str_partition a b t u hb hz) ?_
    unfold Txt.partition at h
    revert h
    cases Builtin.Str.occurrences a b 0 a.length 1 with
    | nil => intro h; exact laid_partsZ I h
    | cons i r => intro h; exact laid_partsZ I h
theorem par_toS (s t : List Nat) (ht : t ≠ []) : [D.str (Txt.partition (toS s) (toS t)).1.cps.toList, D.str (Txt.partition (toS s) (toS t)).2.1.cps.toList, D.str (Txt.partition (toS s) (toS t)).2.2.cps.toList] = par3 s t := by
  have ey : tl (toS t) = t := toS_list t
  rw [partition_par _ _ (by rw [ey]; exact ht), ey, show tl (toS s) = s from toS_list s, ← parT_eq]
  unfold par3
  cases e : parT t [] s with
  | none =>
    show [D.str (toS s).cps.toList, D.str [], D.str []] = _
    rw [toS_list]
  | some p =>
    obtain ⟨a, b⟩ := p
    show [D.str a, D.str (toS t).cps.toList, D.str b] = _
    rw [toS_list]
theorem split_toS (s t : List Nat) (ht : t ≠ []) (hk : t.all (· < 256) = true) : (Txt.split (toS s) (toS t)).map tl = splT t 0 [] s := by
  have ey : tl (toS t) = t := toS_list t
  rw [split_spl _ _ (by rw [ey]; exact ht) (kind_ok (by show (toS t).cps.all _ = true; simpa [toS] using hk)), ey, show tl (toS s) = s from toS_list s, splT_eq]
theorem starts_toS (s t : List Nat) : Txt.startswith (toS s) (toS t) = preT t s := by
  unfold Txt.startswith
  rw [StrLaws.subAt_eq, toS_list, toS_list, toS_len, toS_len, List.drop_zero]
  unfold preT
  cases h : s.take t.length == t with
  | false => rw [Bool.and_false]
  | true =>
    have e : s.take t.length = t := eq_of_beq h
    have := congrArg List.length e
    rw [List.length_take] at this
    rw [Bool.and_true]
    exact decide_eq_true (by omega)
theorem up_ok : ∀ c : Fin 128, Unicode.upperOf c.1 = [upC c.1] := by decide +kernel
theorem up_list : ∀ {s : List Nat}, s.all (· < 128) = true → (List.map Array.toList (List.mapIdx (fun _ c => (Unicode.upperOf c).toArray) s)).flatten = s.map upC
  | [], _ => rfl
  | c :: r, h => by
    simp only [List.all_cons, Bool.and_eq_true, decide_eq_true_eq] at h
    have ih := up_list h.2
    rw [List.mapIdx_cons]
    simp only [List.map_cons, List.flatten_cons]
    have := up_ok ⟨c, h.1⟩
    simp only at this
    rw [this, ih]
    rfl
theorem upper_toS {s : List Nat} (h : s.all (· < 128) = true) : Txt.upper (toS s) = toS (s.map upC) := by
  have e : ((toS s).cps.mapIdx fun _ c => (Unicode.upperOf c).toArray).flatten = (s.map upC).toArray := by
    apply Array.toList_inj.mp
    rw [Array.toList_flatten, Array.toList_mapIdx]
    exact up_list h
  exact congrArg Str.mk e
theorem strs_rp {F : PySem.W.Frag} {H : Hp} : ∀ ss : List (List Nat), Rps F H (ss.map D.str) ((ss.map toS).map V.str)
  | [] => .nil
  | s :: ss => .cons (.str s) (strs_rp ss)
end Mn
end

section
set_option Elab.async false
set_option linter.all false
set_option maxRecDepth 100000
set_option maxHeartbeats 4000000
namespace Mn
open PySem PySem.Spec PyProof.Rows
section
variable {prog : Program} {w : World} {h0 : Heap} {d : Nat}
theorem pil_cons {N : Nat} {Ns : List Nat} : pil (N :: Ns) = N + 2 + pil Ns := by simp [pil]
theorem RepBs.length : ∀ {l : List Value} {Ns : List Nat}, RepBs prog w h0 d l Ns → Ns.length = l.length
  | _, _, .nil => rfl
  | _, _, .cons _ h => by simp [h.length]
theorem RepB.of_is {x : Value} {t : Str} {N : Nat} (h : ReprIs prog w x t) (hN : t.length ≤ N) : RepB prog w h0 d x N := fun b hb A E s Q _ _ hQ => h b (by omega) A E s Q fun tk => hQ t tk hN
theorem tupFoldB {A : Around} {E : Value → Shared → Prop} (hu : A.units + d < cLine) : ∀ (l : List Value) (Ns : List Nat) (acc : Array Str) (n : Nat) (s : Shared) (Q : (Array Str × Nat) → Shared → Prop), RepBs prog w h0 d l Ns → n + pil Ns ≤ sizeLine → (∀ a o, h0.get? a = some o → s.heap.get? a = some o) →
    (∀ ts n' tk, ts.length = l.length → piled ts ≤ pil Ns → Q ⟨acc ++ ts.toArray, n'⟩ { s with toks := tk }) → wpAny (model prog w) A (forIn l (⟨acc, n⟩ : (Array Str × Nat)) tupBody) Q E s := by
  intro l
  induction l with
  | nil =>
    intro Ns acc n s Q hT hn hk h
    cases hT
    have h0 := h [] n s.toks rfl (by simp [piled, pil])
    simp only [List.forIn_nil]
    exact wpAny_pure (by simpa using h0)
  | cons x l ih =>
    intro Ns acc n s Q hT hn hk h
    cases hT with
    | cons hx hl =>
      rename_i N Ns'
      rw [pil_cons] at hn
      rw [List.forIn_cons]
      refine wpAny_bind (wpAny_bind (hx (n + 1) (by omega) A _ _ _ hu hk fun t tk ht => wpAny_pure ?_))
      refine ih Ns' (acc.push t) (n + (t.length + 2)) _ Q hl (by omega) hk fun ts n' tk' e1 e2 => ?_
      have h1 := h (t :: ts) n' tk' (by simp [e1]) (by rw [piled_cons, pil_cons]; omega)
      simpa using h1
theorem tupleText_len (ts : List Str) : (tupleText ts).length ≤ piled ts + 2 := fmt_text ts
theorem tupleRestB {A : Around} {E : Value → Shared → Prop} {s : Shared} {a : Addr} {o : Obj} {items : Array Value} {n b : Nat} {Ns : List Nat} {Q : Fin → Shared → Prop} (hu : A.units + d < cLine) (hk : ∀ a o, h0.get? a = some o → s.heap.get? a = some o) (ha : h0.get? a = some o) (hd : o.data = .seq items n)
    (hT : RepBs prog w h0 d items.toList Ns) (h : ∀ (t : Str) u tk, t.length ≤ pil Ns + 2 → Q (.done (.ret (.str t u))) { s with toks := tk }) (hsz : b + (pil Ns + 2) ≤ sizeLine) :
    wpAny (model prog w) A (tupleReprRest b (.ref a)) Q E s := by
  unfold tupleReprRest Builtin.Tuple.tupleItemsOf
  refine wpAny_bind (wpAny_bind (wpAny_seqItems (hk _ _ ha) hd (wpAny_pure ?_)))
  rw [← Array.forIn_toList]
  refine wpAny_bind (tupFoldB hu _ Ns _ _ _ _ hT (by omega) hk fun ts n' tk e1 e2 => ?_)
  have hlen : ts.length = items.size := by simpa using e1
  have hl := tupleText_len ts
  refine wpAny_bind (wpAny_mkStr (wpAny_pure ?_) ?_)
  · have h1 := h (tupleText ts) tk (tk + 1) (by omega)
    simpa [tupleText, hlen] using h1
  · have : (tupleText ts).length ≤ sizeLine := by omega
    simpa [tupleText, hlen] using this
theorem way_len : ("(...)" : Str).length ≤ 5 := by decide +kernel
/-- tuple.__repr__ with a tally -/
theorem reprAtB {A : Around} {E : Value → Shared → Prop} {s : Shared} {a : Addr} {o : Obj} {items : Array Value} {n b : Nat} {Ns : List Nat} {Q : Fin → Shared → Prop} (hu : A.units + d < cLine) (hk : ∀ a o, h0.get? a = some o → s.heap.get? a = some o) (ha : h0.get? a = some o) (hd : o.data = .seq items n)
    (hT : RepBs prog w h0 d items.toList Ns) (h : ∀ (t : Str) u tk, t.length ≤ pil Ns + 7 → Q (.done (.ret (.str t u))) { s with toks := tk }) (hsz : b + (pil Ns + 7) ≤ sizeLine) :
    wpAny (model prog w) A (Builtin.tupleReprAt b ⟨[.ref a], []⟩) Q E s := by
  rw [tuple_repr_tree]
  refine wpAny_bind (fmt_underWay fun c => ?_)
  cases c with
  | true =>
    refine PySem.W.KFB.if_so rfl ?_
    refine wpAny_bind (wpAny_rule ?_)
    refine wpAny_bind (wpAny_mkStr (wpAny_pure ?_) (by decide +kernel))
    exact h "(...)" _ _ (Nat.le_trans way_len (by omega))
  | false =>
    refine PySem.W.KFB.if_not rfl ?_
    exact tupleRestB hu hk ha hd hT (fun t u tk ht => h t u tk (by omega)) (by omega)
theorem RepB.tuple {a : Addr} {o : Obj} {items : Array Value} {n : Nat} {Ns : List Nat} (ha : h0.get? a = some o) (hc : o.cls = .type "tuple") (hd : o.data = .seq items n) (hT : RepBs prog w h0 d items.toList Ns) : RepB prog w h0 (d + 1) (.ref a) (pil Ns + 7) := by
  intro b hb A E s Q hu hk hQ
  refine wpAny_pyReprUnder_ref (by omega) ?_
  refine wpAny_pyReprObjUnder_twin (twin := "tuple.__repr__.under") ⟨o, hk _ _ ha, hc⟩ F.slot_tuple_repr rfl (by omega) ?_
  refine call_twin_own (F.quiet_tuple_repr_under _) F.entry_tuple_repr_under F.check_tuple_repr_under ⟨o, hk _ _ ha, hc⟩ F.slot_tuple_repr (F.args_tuple_repr_1 _) (wpOwn_of_wpAny ?_)
  refine reprAtB (d := d) (b := b) ?_ hk ha hd hT (fun t u tk ht => ⟨⟨_, _, rfl⟩, _, _, rfl, hQ t tk ht⟩) hb
  rw [units_under_tuple_repr_under]
  omega
end
open L2
section
variable {X : Cx} {pins : List (Addr × Obj)} {σ : L2.St} {H : Hp} {s : Shared}
mutual
theorem ShV.rep {prog : Program} {w : World} (I : Inv X pins σ H s) : ∀ {d : Nat} {v : V} {N : Nat}, ShV X.K H d v N → ∀ {u : Value}, RelV v u → RepB prog w s.heap d u N
  | _, _, _, .int h, _, r => by
    obtain ⟨t, rfl⟩ := r
    exact .of_is (ReprIs.int t h) (Nat.le_refl _)
  | _, _, _, .str (z := z) h h2, _, r => by
    obtain ⟨t, rfl⟩ := r
    have hl := StrLaws.reprText_len z h
    exact .of_is (ReprIs.str z t (by omega)) hl
  | _, _, _, .tup h hs, _, r => by
    cases r
    obtain ⟨its, rv, ⟨o, ho, hcl, n, hd⟩, _⟩ := I.tuple h
    exact .tuple ho hcl hd (by simpa using ShVs.rep I hs rv)
theorem ShVs.rep {prog : Program} {w : World} (I : Inv X pins σ H s) : ∀ {d : Nat} {vs : List V} {Ns : List Nat}, ShVs X.K H d vs Ns → ∀ {us : List Value}, Vals vs us → RepBs prog w s.heap d us Ns
  | _, _, _, .nil, _, r => by
    cases r
    exact .nil
  | _, _, _, .cons h hs, _, r => by
    cases r with
    | cons r1 r2 => exact .cons (ShV.rep I h r1) (ShVs.rep I hs r2)
end
/-- str(t): some text of at most N signs -/
def rStrT (K : PySem.W.Frag) (xs : List V) (H : Hp) (Q : V → Hp → Prop) : Prop := ∃ (a : Addr) (vs : List V) (d : Nat) (Ns : List Nat), xs = [V.ref a] ∧ SqT K H a vs ∧ ShVs K H d vs Ns ∧ d ≤ 40 ∧ pil Ns + 7 ≤ sizeLine ∧ ∀ z : Str, z.length ≤ pil Ns + 7 → Q (.str z) H
theorem call_str_tup (hu : X.A.units + 65 < cLine) : CallR X (.type "str") (rStrT X.K) := by
  intro pins s σ H xs us Q I r h
  obtain ⟨a, vs, d, Ns, rfl, ht, hs, hd, hz, q⟩ := h
  obtain ⟨u, rfl, r1⟩ := vals1 r
  cases r1
  obtain ⟨its, rv, ⟨o, ho, hcl, n, hdt⟩, _⟩ := I.tuple ht
  have hT : ∀ (prog : Program) (w : World), RepBs prog w s.heap d its Ns := fun prog w => ShVs.rep I hs rv
  refine callType_new F.called_str (by decide) (F.typeCall_str_1 _) (F.newCall_str_1 _) (fun obj => F.args_object_init_2 obj _) F.entry_str_new
    (meets_str_new (S := fun A' R s' => A'.units + (d + 6) < cLine ∧ (∀ b o, s.heap.get? b = some o → s'.heap.get? b = some o) ∧ ∀ (t : Str) (u tk : Tok), t.length ≤ pil Ns + 7 → R (.ok (.ret (.str t u))) { s' with toks := tk })
      fun prog' w' A' R s' h => ?_) ?_
  · obtain ⟨h1, h2, h3⟩ := h
    refine wpAny_strOf_slot rfl (by show A'.units + 1 + 1 < cLine; omega) ⟨o, h2 _ _ ho, hcl⟩ F.slot_tuple_str F.slot_tuple_repr ?_
    refine wpAny_call (codeAny_call_builtin_own (Code.quiet_builtin _ (by decide +kernel)) F.entry_tuple_repr (F.slot_tuple_repr.check _ _ _ _ _ _ _ _ ⟨o, h2 _ _ ho, hcl⟩ (F.args_tuple_repr_1 _) (wpOwn_of_wpAny ?_)))
    refine reprAtB (d := d) (h0 := s.heap) (b := 0) (Ns := Ns) ?_ h2 ho hdt (by simpa using hT _ _) (fun t u tk ht => ⟨_, _, rfl, h3 t u tk ht⟩) (by omega)
    rw [units_under_tuple_repr]
    show A'.units + 1 + 1 + 1 + d < cLine
    omega
  · refine ⟨?_, fun _ _ e => e, fun t u tk ht => ⟨typeIs_str _ _ _, .str t, H, I.tok _, ⟨u, rfl⟩, q t ht⟩⟩
    show X.A.units + 1 + (d + 6) < cLine
    omega
end
end Mn
end

section
set_option Elab.async false
set_option linter.all false
set_option maxRecDepth 100000
set_option maxHeartbeats 4000000
end

section
set_option Elab.async false
set_option linter.all false
set_option maxRecDepth 100000
set_option maxHeartbeats 4000000
end

section
set_option Elab.async false
set_option linter.all false
set_option maxRecDepth 100000
set_option maxHeartbeats 4000000
namespace Mn
open PySem PySem.Spec PyProof.Rows L2
def keyS (e : Int × Value) : Str := match e.2 with | .str x _ => x | _ => ⟨#[]⟩
def GoodS (w : World) (e : Int × Value) : Prop := ∃ x tk, e.2 = Value.str x tk ∧ e.1 = hashStr w x
/-- the set of texts at a: S its members, n their number -/
def SetS (w : World) (h : Heap) (a : Addr) (S : Str → Bool) (n : Nat) : Prop :=
  ∃ o es ep t, h.get? a = some o ∧ o.ExactSet ∧ o.data = .set es ep t ∧ (∀ e ∈ es.toList, GoodS w e) ∧ (es.toList.map keyS).Nodup ∧ (∀ k, S k = true ↔ k ∈ es.toList.map keyS) ∧
    es.size < scanBound ∧ t.fits es.size = true ∧ es.size = n ∧ Ris t.place.toList ∧ (w.params.followText "set-order" = true ∨ t.led = true)
section
variable {P : Program} {w : World} {h h' : Heap} {a : Addr} {S : Str → Bool} {n : Nat}
theorem SetS.at (R : SetS w h a S n) (k : ∀ o, h.get? a = some o → h'.get? a = some o) : SetS w h' a S n := by
  obtain ⟨o, es, ep, t, ho, r⟩ := R
  exact ⟨o, es, ep, t, k o ho, r⟩
theorem SetS.congr {S' : Str → Bool} (R : SetS w h a S n) (e : ∀ k, S' k = S k) : SetS w h a S' n := by
  have q : S' = S := funext e
  rw [q]; exact R
theorem goodS_elems {l : List (Int × Value)} (g : ∀ e ∈ l, GoodS w e) : ElemsOf (PySem.strKind P w) l := fun e he => by
  obtain ⟨x, tk, h1, h2⟩ := g e he
  exact ⟨⟨x, by rw [h1]; exact strKind_is P w x tk, h2⟩, by rw [h1] <;> rfl⟩
theorem goodS_is {e : Int × Value} (g : GoodS w e) (k : Str) : (PySem.strKind P w).is k e.2 = true ↔ keyS e = k := by
  obtain ⟨x, tk, h1, _⟩ := g
  unfold keyS
  rw [h1]
  constructor
  · intro h
    obtain ⟨t, e⟩ := Value.isStrOf_shape (show Value.isStrOf k (Value.str x tk) = true from h)
    cases e
    rfl
  · intro h
    subst h
    exact strKind_is P w x tk
theorem goodS_mem {l : List (Int × Value)} (g : ∀ e ∈ l, GoodS w e) (k : Str) : k ∈ l.map keyS ↔ ∃ e ∈ l, (PySem.strKind P w).is k e.2 = true := by
  rw [List.mem_map]
  exact ⟨fun ⟨e, he, q⟩ => ⟨e, he, (goodS_is (g e he) k).2 q⟩, fun ⟨e, he, q⟩ => ⟨e, he, (goodS_is (g e he) k).1 q⟩⟩
theorem SetS.setOf (R : SetS w h a S n) : h.SetOf (PySem.strKind P w) a S n := by
  obtain ⟨o, es, ep, t, ho, hx, hd, g, nd, hm, hb, hf, hn, _⟩ := R
  exact ⟨o, es, ep, t, ho, hx, hd, goodS_elems g, fun k => (hm k).trans (goodS_mem g k), hb, hf, hn⟩
end
end Mn
end

section
set_option Elab.async false
set_option linter.all false
set_option maxRecDepth 100000
set_option maxHeartbeats 4000000
namespace Mn
open PySem PySem.Spec PyProof.Rows L2
section
variable {P : Program} {w : World}
/-- v is of no class statement; whether its hash is by value is told -/
def Meek (P : Program) (w : World) (n : Nat) (s : Shared) (v : Value) : Prop :=
  (∀ (A : Around) (E : Value → Shared → Prop) (Q : Bool → Shared → Prop), Q false s → wpAny (model P w) A (ofAClassStatement n v) Q E s) ∧
  (∀ (A : Around) (E : Value → Shared → Prop) (Q : Bool → Shared → Prop), (∀ b, Q b s) → wpAny (model P w) A (hashByValue n v) Q E s)
theorem meek_plain {n : Nat} {s : Shared} {v : Value} (h : v = .none ∨ (∃ b, v = .bool b) ∨ (∃ i t, v = .int i t) ∨ ∃ x t, v = .str x t) : Meek P w n s v := by
  rcases h with rfl | ⟨b, rfl⟩ | ⟨i, t, rfl⟩ | ⟨x, t, rfl⟩ <;> refine ⟨fun A E Q q => ?_, fun A E Q q => ?_⟩ <;> cases n <;> exact wpAny_pure (by first | exact q | exact q _)
theorem meek_tup {n : Nat} {s : Shared} {a : Addr} {o : Obj} {vs : Array Value} {m : Nat} (ho : s.heap.get? a = some o) (hc : o.cls = .type "tuple") (hd : o.data = .seq vs m) (hq : ∀ v ∈ vs.toList, Meek P w n s v) : Meek P w (n + 1) s (.ref a) := by
  have hT : s.TypeIs (.ref a) "tuple" := ⟨o, ho, hc⟩
  constructor
  · intro A E Q h
    unfold ofAClassStatement
    refine wpAny_bind (wpAny_typeOf hT ?_)
    have e : (("tuple" : String) == "tuple") = true := by decide
    dsimp only
    simp only [e, if_true, Bool.not_true, Bool.false_eq_true, if_false]
    try refine wpAny_bind (wpAny_pure ?_)
    try simp only [Bool.not_true, Bool.false_eq_true, if_false]
    show wpAny _ _ (seqItems? (.ref a) >>= _) _ _ s
    refine wpAny_bind (wpAny_seqItems ho hd ?_)
    dsimp only
    refine wpAny_bind ?_
    show wpAny _ _ (forIn vs _ _) _ _ s
    rw [← Array.forIn_toList]
    refine wpAny_forIn_list _ (fun rest r z => r.1 = none ∧ z = s ∧ ∀ v ∈ rest, Meek P w n s v) _ ?_ ?_ _ _ ⟨rfl, rfl, hq⟩
    · rintro v rest r z ⟨hr, rfl, al⟩
      refine wpAny_bind ((al v List.mem_cons_self).1 _ _ _ ?_)
      simp only [Bool.false_eq_true, if_false]
      exact wpAny_pure ⟨rfl, rfl, fun u hu => al u (List.mem_cons_of_mem _ hu)⟩
    · rintro ⟨r1, r2⟩ z ⟨hr, rfl, _⟩
      simp only at hr
      subst hr
      exact wpAny_pure h
  · intro A E Q h
    unfold hashByValue
    refine wpAny_bind (wpAny_specialOf hT F.slot_tuple_hash.lookup ?_)
    show wpAny _ _ (seqItems? (.ref a) >>= _) _ _ s
    refine wpAny_bind (wpAny_seqItems ho hd ?_)
    refine wpAny_bind ?_
    show wpAny _ _ (forIn vs _ _) _ _ s
    rw [← Array.forIn_toList]
    refine wpAny_forIn_list _ (fun rest r z => r.1 = none ∧ z = s ∧ ∀ v ∈ rest, Meek P w n s v) _ ?_ ?_ _ _ ⟨rfl, rfl, hq⟩
    · rintro v rest r z ⟨hr, rfl, al⟩
      refine wpAny_bind ((al v List.mem_cons_self).2 _ _ _ fun b => ?_)
      cases b
      · simp only [Bool.not_false, if_true]
        exact wpAny_pure (wpAny_pure (h _))
      · simp only [Bool.not_true, Bool.false_eq_true, if_false]
        exact wpAny_pure ⟨rfl, rfl, fun u hu => al u (List.mem_cons_of_mem _ hu)⟩
    · rintro ⟨r1, r2⟩ z ⟨hr, rfl, _⟩
      simp only at hr
      subst hr
      exact wpAny_pure (h _)
mutual
theorem meek_key : ∀ (k : NestedKey) (v : Value) (n : Nat) (s : Shared), NestedIs s.heap k v → k.depth ≤ n → Meek P w n s v
  | .none, _, n, s, x, _ => by cases x; exact meek_plain (.inl rfl)
  | .num i, _, n, s, x, _ => by
    cases x with
    | bool e => exact meek_plain (.inr (.inl ⟨_, rfl⟩))
    | int i t => exact meek_plain (.inr (.inr (.inl ⟨_, _, rfl⟩)))
  | .text y, _, n, s, x, _ => by cases x; exact meek_plain (.inr (.inr (.inr ⟨_, _, rfl⟩)))
  | .tup ks, _, n, s, x, hn => by
    cases x with
    | tup hg hc hd hk =>
      simp only [NestedKey.depth] at hn
      cases n with
      | zero => omega
      | succ n => exact meek_tup hg hc hd (meek_keys ks _ n s hk (by omega))
theorem meek_keys : ∀ (ks : List NestedKey) (vs : List Value) (n : Nat) (s : Shared), NestedAll s.heap ks vs → NestedKey.depthAll ks ≤ n → ∀ v ∈ vs, Meek P w n s v
  | [], _, n, s, x, _, v, hv => by cases x; cases hv
  | k :: ks, _, n, s, x, hn, v, hv => by
    cases x with
    | cons x1 x2 =>
      simp only [NestedKey.depthAll] at hn
      rcases List.mem_cons.mp hv with e | hv
      · rw [e]; exact meek_key k _ n s x1 (by omega)
      · exact meek_keys ks _ n s x2 (by omega) v hv
end
theorem nk_meek {s : Shared} {k : NestedKey} {b : Addr} (h : NK P w s.heap k b) : Meek P w 8 s (.ref b) := meek_key k _ 8 s h.1 h.2
theorem nk_unseen {A : Around} {E : Value → Shared → Prop} {s : Shared} {k : NestedKey} {b : Addr} {Q : Bool → Shared → Prop} (hk : NK P w s.heap k b) {ys : List Value} (hy : ∀ y ∈ ys, ∃ q c, y = Value.ref c ∧ NK P w s.heap q c) (h : Q false s) :
    wpAny (model P w) A (searchCouldBeSeen (.ref b) ys) Q E s := by
  unfold searchCouldBeSeen
  refine wpAny_bind ?_
  refine wpAny_forIn_list _ (fun rest r z => r.1 = none ∧ z = s ∧ ∀ y ∈ rest, ∃ q c, y = Value.ref c ∧ NK P w s.heap q c) _ ?_ ?_ _ _ ⟨rfl, rfl, hy⟩
  · rintro v rest r z ⟨hr, rfl, al⟩
    obtain ⟨q, c, rfl, hc⟩ := al v List.mem_cons_self
    have more : ∀ y ∈ rest, ∃ q c, y = Value.ref c ∧ NK P w z.heap q c := fun u hu => al u (List.mem_cons_of_mem _ hu)
    dsimp only
    by_cases hv : (b == c || (carriedByValue (.ref b) && carriedByValue (.ref c))) = true
    · exact wp_if_pos hv (wpAny_pure ⟨rfl, rfl, more⟩)
    · refine wp_if_neg hv ?_
      refine wpAny_bind ((nestedKind P w).quiet hk ?_)
      simp only [Bool.not_true, Bool.false_eq_true, if_false]
      refine wpAny_bind ((nestedKind P w).quiet hc ?_)
      simp only [Bool.not_true, Bool.false_eq_true, if_false]
      refine wpAny_bind ((nk_meek hk).1 _ _ _ ?_)
      simp only [Bool.false_eq_true, if_false]
      refine wpAny_bind ((nk_meek hc).1 _ _ _ ?_)
      simp only [Bool.false_eq_true, if_false]
      exact wpAny_pure ⟨rfl, rfl, more⟩
  · rintro ⟨r1, r2⟩ z ⟨hr, rfl, _⟩
    simp only at hr
    subst hr
    exact wpAny_pure h
end
section
variable {P : Program} {w : World}
theorem fits_n {es : Array (Int × Value)} {t : SetTable} {hs : List Int} (T : TabOk t hs) (e : es.size = hs.length) (h : hs.length ≤ t.mask) : t.fits es.size = true := by
  have h1 := T.sz
  unfold SetTable.fits SetTable.fill
  rw [T.dm, Bool.and_eq_true, beq_iff_eq, decide_eq_true_eq]
  show t.place.size = es.size ∧ t.place.size + 0 ≤ t.mask
  omega
section
variable {h : Heap} {a : Addr} {L : List (Addr × NestedKey)} {es : Array (Int × Value)} {ep : Nat} {t : SetTable}
theorem SetN.size (R : SetN P w h a L es ep t) : es.size = L.length := by rw [← Array.length_toList, R.rows, List.length_map]
theorem SetN.fits (R : SetN P w h a L es ep t) : t.fits es.size = true := fits_n R.tab (by rw [R.size, List.length_map]) (by rw [List.length_map]; have := R.room; omega)
theorem SetN.at (R : SetN P w h a L es ep t) {i : Nat} {p : Addr × NestedKey} (e : L[i]? = some p) : es[i]? = some (p.2.hash w, Value.ref p.1) := by
  rw [← Array.getElem?_toList, R.rows, List.getElem?_map, e] <;> rfl
theorem SetN.keep {h2 : Heap} (R : SetN P w h a L es ep t) (ha : ∀ o, h.get? a = some o → h2.get? a = some o) (hk : ∀ p ∈ L, NK P w h2 p.2 p.1) : SetN P w h2 a L es ep t := by
  obtain ⟨⟨o, ho, r⟩, r2, r3, r4, _, r6, r7, r8⟩ := R
  exact ⟨⟨o, ha o ho, r⟩, r2, r3, r4, hk, r6, r7, r8⟩
end
/-- the c-th place that a search for the hash x looks at -/
abbrev stepAt (t : SetTable) (x : Int) (c : Nat) : SetTable.Probe := nth t.mask (t.probeStart x) c
theorem stepAt_add (t : SetTable) (x : Int) (c q : Nat) : nth t.mask (stepAt t x c) q = stepAt t x (c + q) := (nth_add t.mask c _ q).symm
theorem stepAt_dummy (t : SetTable) (x : Int) (c : Nat) : (stepAt t x c).dummy = none := by
  have key : ∀ (n : Nat) (p : SetTable.Probe), p.dummy = none → (nth t.mask p n).dummy = none := by
    intro n
    induction n with
    | zero => exact fun _ e => e
    | succ n ih =>
      intro p e
      refine ih _ ?_
      unfold adv
      split <;> exact e
  exact key c _ rfl
variable {A : Around} {E : Value → Shared → Prop} {s : Shared} {a x : Addr} {k : NestedKey} {L : List (Addr × NestedKey)} {es : Array (Int × Value)} {ep : Nat} {t : SetTable}
theorem look_from (R : SetN P w s.heap a L es ep t) (hx : NK P w s.heap k x) (hu : A.units + 8 < cLine) {K : Nat} (hf : K < 10 * SetTable.turns t.mask)
    (free : way t.mask (k.hash w) K ∉ t.place.toList) (busy : ∀ c, c < K → way t.mask (k.hash w) c ∈ t.place.toList) {Q : SetFound → Shared → Prop}
    (yes : k ∈ L.map (·.2) → Q (.there none) s) (no : k ∉ L.map (·.2) → Q (.free (way t.mask (k.hash w) K) false) s) :
    ∀ (f c : Nat) (st : Option SetTable.Probe), st.getD (t.probeStart (k.hash w)) = stepAt t (k.hash w) c → c ≤ K → K < f + c →
      (∀ (i : Nat) p, L[i]? = some p → p.2 = k → ∃ d, c ≤ d ∧ d < K ∧ t.place.toList[i]? = some (way t.mask (k.hash w) d)) →
      wpAny (model P w) A (setSearchFrom a (.ref x) (k.hash w) true f st) Q E s := by
  obtain ⟨o, ho, hex, hd⟩ := R.ob
  intro f
  induction f with
  | zero => intro c st _ h1 h2; omega
  | succ f ih =>
    intro c st hst hc hcf ahead
    rw [setSearchFrom_succ]
    refine wpAny_bind (wpAny_setState_of ho hd R.fits ?_)
    dsimp only
    have ng : ¬ t.gaveWay = true := by
      unfold SetTable.gaveWay
      rw [mask_odd R.tab.mok]
      decide
    refine wp_if_neg ng ?_
    try refine wpAny_bind (wpAny_pure ?_)
    have jq : ∀ q, (nth t.mask (stepAt t (k.hash w) c) q).j = way t.mask (k.hash w) (c + q) := fun q => congrArg SetTable.Probe.j (stepAt_add t (k.hash w) c q)
    have hsh : ∀ (i : Nat) p, L[i]? = some p → (fun i => (es[i]?.map (·.1)).getD 0) i = p.2.hash w := fun i p e => by
      show (es[i]?.map (·.1)).getD 0 = _
      rw [R.at e] <;> rfl
    have told := go_spec t R.tab.ris R.tab.dm (fun i => (es[i]?.map (·.1)).getD 0) (k.hash w) (10 * SetTable.turns t.mask) (K - c) (stepAt t (k.hash w) c) (stepAt_dummy t _ c) (by omega)
      (fun q hq => by rw [jq]; exact busy _ (by omega)) (by rw [jq, show c + (K - c) = K by omega]; exact free)
    rw [← hst] at told
    rcases told with ⟨q, i, hq, hi, _, before, probe⟩ | ⟨before, probe⟩
    · replace probe : t.probe (fun i => (es[i]?.map (·.1)).getD 0) (k.hash w) (st.getD (t.probeStart (k.hash w))) = _ := probe
      rw [probe]
      dsimp only
      rw [hst] at hi before ⊢
      rw [jq] at hi
      obtain ⟨p, hp⟩ : ∃ p, L[i]? = some p := by
        have h1 : i < t.place.toList.length := (List.getElem?_eq_some_iff.mp hi).1
        have h2 := R.tab.sz
        rw [List.length_map] at h2
        rw [Array.length_toList] at h1
        exact ⟨_, List.getElem?_eq_getElem (by omega)⟩
      have pm : p ∈ L := List.mem_of_getElem? hp
      have on : wpAny (model P w) A (searchRest a (.ref x) (k.hash w) true f es t (nth t.mask (stepAt t (k.hash w) c) q).j i (nth t.mask (stepAt t (k.hash w) c) (q + 1))) Q E s := by
        unfold searchRest
        rw [R.at hp]
        dsimp only
        refine wpAny_bind (wpAny_holding ((nestedKind P w).eqBool hu (R.keys p pm) hx ?_))
        refine wpAny_bind (wpAny_setState_of ho hd R.fits ?_)
        dsimp only
        by_cases same : p.2 = k
        · refine wp_if_pos (by simp [same]) (wpAny_pure (yes (List.mem_map.mpr ⟨p, pm, same⟩)))
        · refine wp_if_neg (by simp [same]) ?_
          try refine wpAny_bind (wpAny_pure ?_)
          rw [sameMem]
          dsimp only
          rw [jq]
          have sl : t.slot (way t.mask (k.hash w) (c + q)) = .live i := slot_live R.tab.ris hi
          simp only [if_true, sl, R.at hp]
          refine wpAny_bind (wpAny_isSame_ref_self (wpAny_bind (wpAny_pure ?_)))
          simp only [if_true]
          refine wp_if_neg (by simp [same]) ?_
          refine ih (c + (q + 1)) (some _) (stepAt_add t (k.hash w) c (q + 1)) (by omega) (by omega) fun i2 p2 h2 e2 => ?_
          obtain ⟨d, d1, d2, d3⟩ := ahead i2 p2 h2 e2
          refine ⟨d, ?_, d2, d3⟩
          rcases Nat.lt_trichotomy d (c + q) with z | z | z
          · exact absurd ((hsh i2 p2 h2).trans (congrArg (NestedKey.hash w) e2)) (before (d - c) i2 (by omega) (by rw [jq, show c + (d - c) = d by omega]; exact d3))
          · rw [z] at d3
            have e3 := slot_live R.tab.ris d3
            rw [sl] at e3
            injection e3 with e3
            rw [← e3, hp] at h2
            exact absurd ((congrArg Prod.snd (Option.some.inj h2)).trans e2) same
          · omega
      by_cases hl : t.led = true
      · refine wp_if_neg (by simp [hl]) ?_
        try refine wpAny_bind (wpAny_pure ?_)
        exact on
      · refine wp_if_pos (by simp [hl]) ?_
        refine wpAny_bind (nk_unseen hx (fun y hy => ?_) ?_)
        · obtain ⟨e, he, ee⟩ := List.mem_map.mp hy
          have he2 : e ∈ es.toList := by
            have : e ∈ es ∧ e.1 = k.hash w := by simpa using he
            simpa using this.1
          rw [R.rows] at he2
          obtain ⟨p2, hp2, e2⟩ := List.mem_map.mp he2
          exact ⟨p2.2, p2.1, by rw [← ee, ← e2], R.keys p2 hp2⟩
        · refine wp_if_neg (by decide) ?_
          try refine wpAny_bind (wpAny_pure ?_)
          exact on
    · replace probe : t.probe (fun i => (es[i]?.map (·.1)).getD 0) (k.hash w) (st.getD (t.probeStart (k.hash w))) = _ := probe
      rw [probe]
      dsimp only
      rw [hst] at before ⊢
      rw [jq, show c + (K - c) = K by omega]
      refine wpAny_pure (no fun hm => ?_)
      obtain ⟨p, hp, e⟩ := List.mem_map.mp hm
      obtain ⟨i, hi, e1⟩ := List.getElem_of_mem hp
      have h2 : L[i]? = some p := by rw [List.getElem?_eq_getElem hi, e1]
      obtain ⟨d, d1, d2, d3⟩ := ahead i p h2 e
      exact before (d - c) i (by omega) (by rw [jq, show c + (d - c) = d by omega]; exact d3) ((hsh i p h2).trans (congrArg (NestedKey.hash w) e))
/-- the search that an adding asks for -/
theorem look_set (R : SetN P w s.heap a L es ep t) (hx : NK P w s.heap k x) (hu : A.units + 8 < cLine) {Q : SetFound → Shared → Prop} (yes : k ∈ L.map (·.2) → Q (.there none) s)
    (no : ∀ K, k ∉ L.map (·.2) → way t.mask (k.hash w) K ∉ t.place.toList → (∀ c, c < K → way t.mask (k.hash w) c ∈ t.place.toList) → Q (.free (way t.mask (k.hash w) K) false) s) :
    wpAny (model P w) A (setSearch a (.ref x) (k.hash w) true) Q E s := by
  have hr := R.room
  obtain ⟨K, h1, h2, h3⟩ := R.tab.first (by rw [List.length_map]; omega) (k.hash w)
  have big : K < 100000 := by
    refine Nat.lt_trans h1 ?_
    unfold SetTable.turns
    rcases R.tab.mok with e | e | e <;> omega
  unfold setSearch
  refine look_from R hx hu h1 h2 h3 yes (fun z => no K z h2 h3) 100000 0 none rfl (Nat.zero_le _) (by omega) fun i p hp e => ?_
  have hi : (L.map fun p => p.2.hash w)[i]? = some (k.hash w) := by rw [List.getElem?_map, hp, ← e] <;> rfl
  have hil : i < t.place.toList.length := by
    have q1 : i < L.length := (List.getElem?_eq_some_iff.mp hp).1
    have q2 := R.tab.sz
    rw [List.length_map] at q2
    rw [Array.length_toList]
    omega
  have hj := List.getElem?_eq_getElem hil
  obtain ⟨d, hd, e2⟩ := R.tab.before h2 hi hj
  exact ⟨d, Nat.zero_le _, hd, by rw [hj, e2]⟩
end
section
variable {P : Program} {w : World}
theorem nk_same {h h2 : Heap} {k : NestedKey} {a b : Addr} {o : Obj} {es : Array (Int × Value)} {ep : Nat} {t : SetTable} (hb : NK P w h k b) (ho : h.get? a = some o) (hd : o.data = .set es ep t) (hs : Heap.SameBut a h h2) : NK P w h2 k b :=
  nestedKind_stays.stays (fun c ob vs n e1 e2 => (hs.2 c fun z => by
    subst z
    rw [ho] at e1
    cases e1
    rw [hd] at e2
    cases e2).trans e1) hb
theorem nk_keep {h h2 : Heap} {k : NestedKey} {b : Addr} (hb : NK P w h k b) (hk : ∀ c o, h.get? c = some o → h2.get? c = some o) : NK P w h2 k b := nestedKind_stays.stays (fun c ob _ _ e _ => hk c ob e) hb
theorem insert_perm {α : Type} (L : List α) (p : Nat) (x : α) : (L.take p ++ x :: L.drop p).Perm (x :: L) := by
  have h : (L.take p ++ x :: L.drop p).Perm (x :: (L.take p ++ L.drop p)) := List.perm_middle
  rwa [List.take_append_drop] at h
theorem range_getD {α : Type} (L : List α) (d : α) : (List.range L.length).map (fun i => L.getD i d) = L := by
  apply List.ext_getElem
  · simp
  · intro i h1 h2
    simp [List.getD_eq_getElem?_getD, h2]
/-- rows laid in another order -/
theorem laid_rows {L : List (Addr × NestedKey)} {es : Array (Int × Value)} (order : Array Nat) (hr : es.toList = L.map fun p => (p.2.hash w, Value.ref p.1)) (hp : order.toList.Perm (List.range L.length)) :
    ∃ L2 : List (Addr × NestedKey), (order.filterMap (es[·]?)).toList = (L2.map fun p => (p.2.hash w, Value.ref p.1)) ∧ L2.Perm L ∧ (L2.map fun p => p.2.hash w) = order.toList.map fun i => (es.map (·.1)).getD i 0 := by
  refine ⟨order.toList.map fun i => L.getD i (0, .none), ?_, ?_, ?_⟩
  · rw [Array.toList_filterMap, List.map_map]
    have key : ∀ l : List Nat, (∀ i ∈ l, i < L.length) → l.filterMap (fun i => es[i]?) = l.map ((fun p => (NestedKey.hash w p.2, Value.ref p.1)) ∘ fun i => L.getD i (0, .none)) := by
      intro l
      induction l with
      | nil => intro _; rfl
      | cons i l ih =>
        intro hl
        have hi := hl i List.mem_cons_self
        have e : es[i]? = some (NestedKey.hash w (L.getD i (0, .none)).2, Value.ref (L.getD i (0, .none)).1) := by
          rw [← Array.getElem?_toList, hr, List.getElem?_map, List.getD_eq_getElem?_getD, List.getElem?_eq_getElem hi] <;> rfl
        rw [List.filterMap_cons_some e, ih fun j hj => hl j (List.mem_cons_of_mem _ hj)] <;> rfl
    exact key _ fun i hi => List.mem_range.mp (hp.mem_iff.mp hi)
  · have := hp.map fun i => L.getD i (0, .none)
    rwa [range_getD] at this
  · rw [List.map_map]
    refine List.map_congr_left fun i hi => ?_
    have hi2 := List.mem_range.mp (hp.mem_iff.mp hi)
    have e5 : (es.map (·.1))[i]? = some (NestedKey.hash w (L.getD i (0, .none)).2) := by
      rw [Array.getElem?_map, ← Array.getElem?_toList, hr, List.getElem?_map, List.getD_eq_getElem?_getD, List.getElem?_eq_getElem hi2] <;> rfl
    simp [Array.getD_eq_getD_getElem?, e5]
variable {A : Around} {E : Value → Shared → Prop} {s : Shared} {a x : Addr} {k : NestedKey} {L : List (Addr × NestedKey)} {es : Array (Int × Value)} {ep : Nat} {t : SetTable}
/-- a larger table -/
theorem lay_anew {o : Obj} (ho : s.heap.get? a = some o) (hex : o.ExactSet) (hd : o.data = .set es ep t) (hr : es.toList = L.map fun p => (p.2.hash w, Value.ref p.1)) (T : TabOk t (L.map fun p => p.2.hash w)) (hfl : L.length ≤ t.mask)
    (nd : (L.map (·.2)).Nodup) (keys : ∀ p ∈ L, NK P w s.heap p.2 p.1) (ld : w.params.followText "set-order" = true ∨ t.led = true) (few : L.length < 64) {want M : Nat}
    (hw : SetTable.sizeAbove want = M + 1) (hM : MaskOk M) (hn : L.length * 5 < M * 3) {Q : Unit → Shared → Prop}
    (hQ : ∀ h2 L2 es2 ep2 t2, Heap.SameBut a s.heap h2 → SetN P w h2 a L2 es2 ep2 t2 → L2.Perm L → Q () { s with heap := h2 }) : wpAny (model P w) A (setRelay a want) Q E s := by
  have hsl : es.size = L.length := by rw [← Array.length_toList, hr, List.length_map]
  have hft := fits_n T (by rw [hsl, List.length_map]) (by rw [List.length_map]; exact hfl)
  have hM2 : M ≤ 127 := by rcases hM with e | e | e <;> omega
  obtain ⟨t2, order, e, hp, T2, em, el, _, _⟩ := relaid_ok t (hs := es.map (·.1)) (wanted := want) (by rw [hw]; rfl) hM (by rw [Array.size_map, hsl]; omega)
  rw [Array.size_map, hsl] at hp
  obtain ⟨L2, r1, r2, r3⟩ := laid_rows order hr hp
  rw [← r3] at T2
  have hs2 : (order.filterMap (es[·]?)).size = es.size := by rw [← Array.length_toList, r1, List.length_map, r2.length_eq, hsl]
  rw [setRelay_eq]
  refine wpAny_bind (wpAny_setState_of ho hd hft ?_)
  dsimp only
  refine wp_if_neg (by rw [sizeLine_eq, hw]; omega) ?_
  try refine wpAny_bind (wpAny_pure ?_)
  rw [e]
  dsimp only
  refine wpAny_bind ?_
  refine wp_if_neg (by rw [hs2]; simp) ?_
  try refine wpAny_bind (wpAny_pure ?_)
  refine wpAny_pure ?_
  dsimp only
  refine wpAny_storeSet_of ho hd ?_ (by rw [hs2, hsl, sizeLine_eq]; omega)
  have sb : Heap.SameBut a s.heap (s.heap.update a (Obj.putSet (order.filterMap (es[·]?)) t2)) := Heap.SameBut.update ..
  refine hQ _ L2 _ _ t2 sb ⟨⟨_, store_at ho hd, ⟨hex.1, hex.2.1, hex.2.2⟩, rfl⟩, r1, T2, (r2.map (·.2)).nodup_iff.mpr nd, fun p hp => nk_same (keys p (r2.mem_iff.mp hp)) ho hd sb, by rw [el]; exact ld, ?_, by rw [r2.length_eq]; exact few⟩ r2
  rw [r2.length_eq, em]
  exact hn
/-- the new rows are stored; the table grows where it is too full -/
theorem store_n {o : Obj} (ho : s.heap.get? a = some o) (hex : o.ExactSet) (hd : o.data = .set es ep t) {L1 : List (Addr × NestedKey)} {es1 : Array (Int × Value)} {t1 : SetTable} (hr : es1.toList = L1.map fun p => (p.2.hash w, Value.ref p.1))
    (T : TabOk t1 (L1.map fun p => p.2.hash w)) (nd : (L1.map (·.2)).Nodup) (keys : ∀ p ∈ L1, NK P w s.heap p.2 p.1) (ld : w.params.followText "set-order" = true ∨ t1.led = true) (few : L1.length < 64) {n : Nat} (hn : L1.length = n + 1) (hroom : n * 5 < t1.mask * 3)
    {Q : Bool → Shared → Prop} (hQ : ∀ h2 L2 es2 ep2 t2, Heap.SameBut a s.heap h2 → SetN P w h2 a L2 es2 ep2 t2 → L2.Perm L1 → Q true { s with heap := h2 }) :
    wpAny (model P w) A (do
        storeSet a es1 t1
        if !false && t1.tooFull then setRelay a (SetTable.grown (n + 1))
        return true) Q E s := by
  have hes : es1.size = L1.length := by rw [← Array.length_toList, hr, List.length_map]
  refine wpAny_bind (wpAny_storeSet_of ho hd ?_ (by rw [hes, sizeLine_eq]; omega))
  have sb : Heap.SameBut a s.heap (s.heap.update a (Obj.putSet es1 t1)) := Heap.SameBut.update ..
  have ho1 := store_at (es' := es1) (t' := t1) ho hd
  generalize s.heap.update a (Obj.putSet es1 t1) = h1 at sb ho1 ⊢
  have keys1 : ∀ p ∈ L1, NK P w h1 p.2 p.1 := fun p hp => nk_same (keys p hp) ho hd sb
  have full : t1.tooFull = true ↔ (n + 1) * 5 ≥ t1.mask * 3 := by
    have hf : t1.fill = n + 1 := by
      show t1.place.size + t1.dummies.size = _
      rw [T.sz, T.dm, List.length_map, hn] <;> rfl
    unfold SetTable.tooFull
    rw [decide_eq_true_eq, hf]
  by_cases hf : t1.tooFull = true
  · have h5 := full.mp hf
    have two : (t1.mask = 7 ∧ n = 4) ∨ (t1.mask = 31 ∧ n = 18) := by
      rcases T.mok with e | e | e
      · left; rw [e] at h5 hroom; exact ⟨e, by omega⟩
      · right; rw [e] at h5 hroom; exact ⟨e, by omega⟩
      · exfalso; rw [e] at h5; omega
    have go : ∀ M, SetTable.sizeAbove (SetTable.grown (n + 1)) = M + 1 → MaskOk M → (n + 1) * 5 < M * 3 →
        wpAny (model P w) A (setRelay a (SetTable.grown (n + 1))) (fun _ z => wpAny (model P w) A (pure true) Q E z) E { s with heap := h1 } := fun M e1 e2 e3 =>
      lay_anew (s := { s with heap := h1 }) ho1 ⟨hex.1, hex.2.1, hex.2.2⟩ rfl hr T (by rcases two with ⟨p, q⟩ | ⟨p, q⟩ <;> omega) nd keys1 ld few e1 e2 (by rw [hn]; exact e3) fun h2 L2 es2 ep2 t2 sb2 R2 pm => wpAny_pure (hQ h2 L2 es2 ep2 t2 (sb.trans sb2) R2 pm)
    simp only [hf, Bool.not_false, Bool.true_and, if_true]
    refine wpAny_bind ?_
    rcases two with ⟨_, q⟩ | ⟨_, q⟩
    · exact go 31 (by rw [q]; exact size_20) (.inr (.inl rfl)) (by omega)
    · exact go 127 (by rw [q]; exact size_76) (.inr (.inr rfl)) (by omega)
  · have h5 : ¬ ((n + 1) * 5 ≥ t1.mask * 3) := fun z => hf (full.mpr z)
    have hf2 : t1.tooFull = false := by simpa using hf
    simp only [hf2, Bool.not_false, Bool.true_and, Bool.false_eq_true, if_false]
    try refine wpAny_bind (wpAny_pure ?_)
    exact wpAny_pure (hQ h1 L1 es1 _ t1 sb ⟨⟨_, ho1, ⟨hex.1, hex.2.1, hex.2.2⟩, rfl⟩, hr, T, nd, keys1, ld, by rw [hn]; omega, few⟩ (List.Perm.refl _))
/-- one key put into the set -/
theorem put_n (R : SetN P w s.heap a L es ep t) (hx : NK P w s.heap k x) (hu : A.units + 8 < cLine) (few : L.length + 1 < 64) {Q : Bool → Shared → Prop}
    (hQ : ∀ b h2 L2 es2 ep2 t2, Heap.SameBut a s.heap h2 → SetN P w h2 a L2 es2 ep2 t2 → (k ∈ L.map (·.2) → L2 = L) → (k ∉ L.map (·.2) → L2.Perm ((x, k) :: L)) → Q b { s with heap := h2 }) :
    wpAny (model P w) A (setAddHashed a (.ref x) (k.hash w)) Q E s := by
  obtain ⟨o, ho, hex, hd⟩ := R.ob
  have hsl := R.size
  unfold setAddHashed
  refine wpAny_holding ?_
  rw [show (100000 : Nat) = 99999 + 1 from rfl, setAddHashedIn_succ]
  refine wpAny_bind (wpAny_setState_of ho hd R.fits ?_)
  dsimp only
  refine wp_if_neg (by simp [byScan, Value.scannable]) ?_
  try refine wpAny_bind (wpAny_pure ?_)
  refine wpAny_bind (look_set R hx hu (fun hm => ?_) fun K hm free busy => ?_)
  · dsimp only
    exact wpAny_pure (hQ false s.heap L es ep t (Heap.SameBut.refl a s.heap) R (fun _ => rfl) fun z => absurd hm z)
  · dsimp only
    refine wpAny_bind (wpAny_setState_of ho hd R.fits ?_)
    dsimp only
    obtain ⟨q1, q2, q3, q4, q5, _, _, _, _⟩ := R.tab.put free busy
    have hpt : t.put (way t.mask (k.hash w) K) = ((t.put (way t.mask (k.hash w) K)).1, SetTable.below t.place (way t.mask (k.hash w) K)) := Prod.ext rfl q1
    rw [hpt]
    dsimp only
    generalize (t.put (way t.mask (k.hash w) K)).1 = t1 at q3 q4 q5 ⊢
    generalize SetTable.below t.place (way t.mask (k.hash w) K) = p at q2 q3 ⊢
    have pm := insert_perm L p (x, k)
    have hrows : (SetTable.insertAt es p (k.hash w, Value.ref x)).toList = (L.take p ++ (x, k) :: L.drop p).map fun p => (p.2.hash w, Value.ref p.1) := by
      rw [SetTable.toList_insertAt, R.rows, List.map_append, List.map_cons, List.map_take, List.map_drop]
    have hT : TabOk t1 ((L.take p ++ (x, k) :: L.drop p).map fun p => p.2.hash w) := by
      rw [List.map_append, List.map_cons, List.map_take, List.map_drop]
      exact q3
    generalize L.take p ++ (x, k) :: L.drop p = L1 at pm hrows hT
    have hlen : L1.length = L.length + 1 := pm.length_eq
    have nd1 : (L1.map (·.2)).Nodup := (pm.map (·.2)).nodup_iff.mpr (by rw [List.map_cons]; exact List.nodup_cons.mpr ⟨hm, R.nd⟩)
    have keys1 : ∀ q ∈ L1, NK P w s.heap q.2 q.1 := fun q hq => by
      rcases List.mem_cons.mp (pm.mem_iff.mp hq) with e | z
      · rw [e]; exact hx
      · exact R.keys q z
    have fin : ∀ t2 : SetTable, TabOk t2 (L1.map fun p => p.2.hash w) → t2.mask = t1.mask → t2.led = t1.led → wpAny (model P w) A (do
          storeSet a (SetTable.insertAt es p (k.hash w, Value.ref x)) t2
          if !false && t2.tooFull then setRelay a (SetTable.grown (es.size + 1))
          return true) Q E s := fun t2 e1 e2 e3 => by
      rw [hsl]
      refine store_n ho hex hd hrows e1 nd1 keys1 (by rw [e3, q5]; exact R.led) (by rw [hlen]; exact few) hlen (by rw [e2, q4]; exact R.room) fun h2 L2 es2 ep2 t3 sb R2 pm2 => ?_
      exact hQ true h2 L2 es2 ep2 t3 sb R2 (fun z => absurd z hm) fun _ => pm2.trans pm
    have off : TabOk { t1 with plain := false } (L1.map fun p => p.2.hash w) := ⟨hT.ris, hT.dm, hT.sz, hT.mok, hT.bd, hT.reach⟩
    by_cases pl : t1.plain = true
    · simp only [pl, if_true]
      refine wpAny_bind ((nk_meek hx).2 _ _ _ fun b => ?_)
      cases b
      · simp only [Bool.false_eq_true, if_false]
        exact fin _ off rfl rfl
      · simp only [if_true]
        exact fin _ hT rfl rfl
    · simp only [pl, if_false, Bool.false_eq_true]
      refine wpAny_bind (wpAny_pure ?_)
      simp only [if_true]
      exact fin _ hT rfl rfl
end
/-- L: of the first i of ks, one of each key -/
def OfEach (ks : List (Addr × NestedKey)) (i : Nat) (L : List (Addr × NestedKey)) : Prop := (∀ p ∈ L, p ∈ ks.take i) ∧ (∀ p ∈ ks.take i, p.2 ∈ L.map (·.2)) ∧ L.length ≤ i
theorem ofEach_next {ks L L2 : List (Addr × NestedKey)} {i : Nat} {x : Addr × NestedKey} (g : OfEach ks i L) (h : ks[i]? = some x) (c1 : x.2 ∈ L.map (·.2) → L2 = L) (c2 : x.2 ∉ L.map (·.2) → L2.Perm (x :: L)) : OfEach ks (i + 1) L2 := by
  obtain ⟨g1, g2, g3⟩ := g
  have tk : ks.take (i + 1) = ks.take i ++ [x] := by rw [List.take_succ, h] <;> rfl
  unfold OfEach
  rw [tk]
  by_cases c : x.2 ∈ L.map (·.2)
  · rw [c1 c]
    refine ⟨fun p hp => List.mem_append_left _ (g1 p hp), fun p hp => ?_, by omega⟩
    rcases List.mem_append.mp hp with z | z
    · exact g2 p z
    · rw [List.mem_singleton.mp z]; exact c
  · have pm := c2 c
    refine ⟨fun p hp => ?_, fun p hp => ?_, by rw [pm.length_eq, List.length_cons]; omega⟩
    · rcases List.mem_cons.mp (pm.mem_iff.mp hp) with z | z
      · rw [z]; exact List.mem_append_right _ (List.mem_singleton.mpr rfl)
      · exact List.mem_append_left _ (g1 p z)
    · rw [(pm.map (·.2)).mem_iff, List.map_cons]
      rcases List.mem_append.mp hp with z | z
      · exact List.mem_cons_of_mem _ (g2 p z)
      · rw [List.mem_singleton.mp z]; exact List.mem_cons_self
section
variable {P : Program} {w : World} {A : Around} {E : Value → Shared → Prop} {s : Shared}
/-- a set that nothing is in yet -/
theorem setN_new {h : Heap} {a : Addr} (ho : h.get? a = some (ledSet w)) : SetN P w h a [] #[] 0 (.fresh 0 0 (!w.params.followText "set-order")) where
  ob := ⟨_, ho, ⟨rfl, rfl, rfl⟩, rfl⟩
  rows := rfl
  tab := ⟨List.Pairwise.nil, rfl, rfl, .inl rfl, fun x hx => (by cases hx), fun i h j hi => (by simp at hi)⟩
  nd := List.nodup_nil
  keys := fun p hp => (by cases hp)
  led := by
    show _ ∨ (!w.params.followText "set-order") = true
    cases w.params.followText "set-order"
    · exact .inr rfl
    · exact .inl rfl
  room := by show 0 * 5 < 7 * 3; decide
  few := by show 0 < 64; decide
variable {R : Result → Shared → Prop} {it : Addr} {fp wr : List Addr} {G : Array GenState → Array GenState → Prop} {n : Nat} {Pv : Nat → Value → Prop} {St : Nat → Shared → Prop}
theorem setN_loop (W : WalksS P w A.in1 it fp wr G n Pv St) (a : Addr) (off : a ∉ fp) (ks : List (Addr × NestedKey)) (hv : ∀ i v, Pv i v → ∃ p, ks[i]? = some p ∧ v = .ref p.1) (hb : n < 64) (h0 : Heap) (hk : ∀ p ∈ ks, NK P w h0 p.2 p.1)
    (ha0 : h0.get? a = none) (hw0 : ∀ b ∈ wr, h0.get? b = none) (hu : A.in1.units + 8 < cLine) :
    ∀ (left i : Nat) (s : Shared), n - i = left → i ≤ n → St i s → (∀ b o, h0.get? b = some o → s.heap.get? b = some o) → (∃ L es ep t, SetN P w s.heap a L es ep t ∧ OfEach ks i L) →
      (∀ z L es ep t, Moved (a :: wr) G s z → SetN P w z.heap a L es ep t → OfEach ks n L → (∀ b o, h0.get? b = some o → z.heap.get? b = some o) → R (.ok (.ret .none)) z) →
      codeAny (model P w) A (.builtin "set.update.loop" ⟨[.ref a, .ref it], []⟩) R s := by
  have offw : a ∉ wr := fun h => off (W.sub _ h)
  have kept : ∀ {s z : Shared}, Moved wr G s z → (∀ b o, h0.get? b = some o → s.heap.get? b = some o) → ∀ b o, h0.get? b = some o → z.heap.get? b = some o := fun hm hp b o e =>
    hm.heap b o (fun hb => by rw [hw0 b hb] at e; cases e) (hp b o e)
  intro left
  induction left with
  | zero =>
    intro i s hl hi st hp ⟨L, es, ep, t, S, g⟩ hR
    obtain rfl : i = n := by omega
    apply codeAny_builtin PyProof.Rows.F.entry_set_update_loop
    rw [Around.under_plainId PyProof.Rows.F.plain_set_update_loop _]
    show wpAny _ A.in1 (pyNext (.ref it) >>= _) _ _ s
    apply wpAny_bind
    apply W.done s _ _ st
    intro z hm
    show wpAny _ A.in1 (ret Value.none) _ _ z
    have hp2 := kept hm hp
    exact wpAny_pure (hR z L es ep t (hm.mono fun b hb => List.mem_cons_of_mem _ hb) (S.keep (fun o e => hm.heap a o offw e) fun p hq => nk_keep (hk p (List.mem_of_mem_take (g.1 p hq))) hp2) g hp2)
  | succ left ih =>
    intro i s hl hi st hp ⟨L, es, ep, t, S, g⟩ hR
    have lt : i < n := by omega
    apply codeAny_builtin PyProof.Rows.F.entry_set_update_loop
    rw [Around.under_plainId PyProof.Rows.F.plain_set_update_loop _]
    show wpAny _ A.in1 (pyNext (.ref it) >>= _) _ _ s
    apply wpAny_bind
    apply W.item i s _ _ lt st
    intro v z hP st2 hm
    obtain ⟨p, hpi, rfl⟩ := hv i v hP
    have hp2 := kept hm hp
    have S2 : SetN P w z.heap a L es ep t := S.keep (fun o e => hm.heap a o offw e) fun p hq => nk_keep (hk p (List.mem_of_mem_take (g.1 p hq))) hp2
    have hx : NK P w z.heap p.2 p.1 := nk_keep (hk p (List.mem_of_getElem? hpi)) hp2
    show wpAny _ A.in1 (holding [Value.ref p.1] (setAdd a (.ref p.1)) >>= _) _ _ z
    apply wpAny_bind
    apply wpAny_holding
    unfold setAdd
    apply wpAny_holding
    apply wpAny_bind
    apply (nestedKind P w).pyHash hu hx
    refine put_n (s := { z with toks := z.toks + p.2.draws }) S2 hx hu (by have := g.2.2; omega) fun b h2 L2 es2 ep2 t2 sb S3 c1 c2 => ?_
    have hp3 : ∀ b o, h0.get? b = some o → h2.get? b = some o := fun b o e => (sb.2 b (fun q => by rw [q, ha0] at e; cases e)).trans (hp2 b o e)
    refine wpAny_pure ⟨plainId_quiet PyProof.Rows.F.plain_set_update_loop _, ih (i + 1) _ (by omega) lt (W.frame _ z _ _ st2 (Nat.le_add_right _ _) fun b hb o e => ?_) hp3 ⟨L2, es2, ep2, t2, S3, ofEach_next g hpi c1 c2⟩ fun y L3 es3 ep3 t3 hm2 S4 g4 hp4 => ?_⟩
    · rw [sb.2 b fun q => off (q ▸ hb)]
      exact e
    · refine hR y L3 es3 ep3 t3 ?_ S4 g4 hp4
      apply Moved.trans W.gtrans _ hm2
      apply (hm.mono fun b hb => List.mem_cons_of_mem _ hb).then_heap (Nat.le_add_right _ _)
      intro b o hb e
      rw [sb.2 b fun q => hb (q ▸ List.mem_cons_self)]
      exact e
end
section
variable {prog : Program} {w : World} {A : Around} {E : Value → Shared → Prop} {s : Shared}
theorem set_nested_list {l : Addr} {its : Array Value} (ks : List (Addr × NestedKey)) {Q : Value → Shared → Prop} (hh : A.handled = none) (hl : s.heap.IsList l its) (hit : its.toList = ks.map fun p => Value.ref p.1) (hk : ∀ p ∈ ks, NK prog w s.heap p.2 p.1) (hb : ks.length < 64) (hu : A.units + 12 < cLine)
    (h : ∀ h2 tk L es ep t, SetN prog w h2 s.heap.objs.size L es ep t → OfEach ks ks.length L → (∀ b o, s.heap.get? b = some o → h2.get? b = some o) → Q (.ref s.heap.objs.size) { s with heap := h2, toks := tk }) :
    wpAny (model prog w) A (call (.type "set") [.ref l]) Q E s := by
  have hn : its.size = ks.length := by rw [← Array.length_toList, hit, List.length_map]
  obtain ⟨c, tl, hmro⟩ := PySem.F.called_set.mro
  have hmade := PySem.F.called_set.made
  have hsub := PySem.F.called_set.sub
  apply wpAny_call
  apply codeAny_of_tree
  show wpAny _ _ (callAny (.type "set") _) _ _ _
  refine wpAny_pure ⟨Code.quiet_builtin _ (by decide +kernel), ?_⟩
  apply codeAny_builtin PySem.F.entry_type_call
  rw [Around.under_plain (weight_type_call_type "set" [.ref l] []) rfl]
  have h1 := PySem.F.called_set.notType
  have h2 := PySem.F.called_set.canCreate
  have hct := PySem.F.typeCall_set_1 (.ref l)
  repeat (any_goals (first | assumption | wp_step))
  refine codeAny_mono (code_set_led1 (.ref l) (E := E) (Q₁ := fun ob z => ob = .ref s.heap.objs.size ∧ z = { s with heap := s.heap.push (ledSet w) }) ⟨rfl, rfl⟩) fun r z hr => ?_
  cases r with
  | error e => exact hr
  | ok fl =>
    cases fl with
    | ret ob =>
      obtain ⟨rfl, rfl⟩ := hr
      have hS : (s.heap.push (ledSet w)).get? s.heap.objs.size = some (ledSet w) := Heap.get?_push_size _ rfl
      have hT : Shared.TypeIs { s with heap := s.heap.push (ledSet w) } (.ref s.heap.objs.size) "set" := ⟨_, hS, rfl⟩
      have hli := PySem.F.called_set.init.lookup
      have hbi := PySem.F.called_set.init.bind (.ref s.heap.objs.size)
      repeat (any_goals (first | assumption | wp_step))
      refine codeAny_mono (codeAny_call_builtin (R := wants (fun r y => r = .none ∧ ∃ h2 tk L es ep t, y = { s with heap := h2, toks := tk } ∧ SetN prog w h2 s.heap.objs.size L es ep t ∧ OfEach ks ks.length L ∧
          (∀ b o, s.heap.get? b = some o → h2.get? b = some o)) E) PySem.F.called_set.init.plain PySem.F.entry_set_init (check_set_init_1 hT ?_)) fun r2 y hr2 => ?_
      · obtain ⟨⟨ocls, odict, odata, oslots⟩, hol, hcl, nl, hdl⟩ := hl
        simp only at hcl hdl
        subst hcl
        subst hdl
        have hol2 : (s.heap.push (ledSet w)).get? l = some { cls := .type "list", dict := odict, data := .seq its nl, slots := oslots } := Heap.get?_push_of_some _ hol
        have hsls := PySem.F.sub_list_set
        have hslf := PySem.F.sub_list_frozenset
        have hne : (Value.type "list" == Value.type "dict") = false := by decide
        have hl1 : (s.heap.push (ledSet w)).IsList l its := ⟨_, hol2, rfl, nl, rfl⟩
        unfold Builtin.«set.__init__» noKeywords Builtin.Frozenset.updateFrom
        generalize hPI : pyIter = PI
        wp_walk
        subst hPI
        apply wpAny_pyIter_list hl1
        apply wpAny_bind
        apply wpAny_runValue
        have hlS : l < s.heap.objs.size := Heap.lt_size hol
        have sz : (s.heap.push (ledSet w)).objs.size = s.heap.objs.size + 1 := Heap.size_push ..
        have hh3 : A.in1.in1.in1.handled = none := by simp [hh]
        have hneI : l ≠ (s.heap.push (ledSet w)).objs.size := by rw [sz]; exact Nat.ne_of_lt (Nat.lt_succ_of_lt hlS)
        have hSf : s.heap.objs.size ∉ [(s.heap.push (ledSet w)).objs.size, l] := by
          rw [sz]
          simp only [List.mem_cons, List.not_mem_nil, or_false, not_or]
          exact ⟨Nat.ne_of_lt (Nat.lt_succ_self _), Nat.ne_of_gt hlS⟩
        have none_of : ∀ b, s.heap.objs.size ≤ b → s.heap.get? b = none := fun b hb => by
          cases q : s.heap.get? b with
          | none => rfl
          | some o => exact absurd (Nat.lt_of_lt_of_le (Heap.lt_size q) hb) (Nat.lt_irrefl _)
        refine setN_loop ((Walks.list hh3 _ l hneI its).toS) s.heap.objs.size hSf ks (fun i v hv => ?_) (by rw [hn]; exact hb) s.heap hk (none_of _ (Nat.le_refl _)) (fun b hb => none_of b ?_) ?hU (its.size - 0) 0 _ (by omega) (Nat.zero_le _) ⟨⟨_, Heap.get?_push_size _ rfl, rfl, rfl⟩, (hl1.push _)⟩
          (fun b o e => Heap.get?_push_of_some _ (Heap.get?_push_of_some _ e)) ?hS0 ?hR
        · have q : its.toList[i]? = some v := by rw [Array.getElem?_toList]; exact hv
          rw [hit, List.getElem?_map] at q
          cases hq : ks[i]? with
          | none => rw [hq] at q; cases q
          | some p =>
            rw [hq] at q
            exact ⟨p, rfl, (Option.some.inj q).symm⟩
        · rw [List.mem_singleton.mp hb, sz]
          exact Nat.le_succ _
        case hU =>
          show A.units + 1 + 1 + 1 + 8 < cLine
          omega
        case hS0 =>
          exact ⟨[], #[], 0, _, setN_new (Heap.get?_push_of_some _ hS), fun p hp => (by cases hp), fun p hp => (by simp at hp), Nat.le_refl _⟩
        case hR =>
          intro z L es ep t hm S g hp
          obtain ⟨h2, g2, d2, tk2, os2⟩ := z
          have eg : g2 = s.gens := hm.gens
          have ed : d2 = s.drawn := hm.drawn
          have eo : os2 = s.os := hm.os
          subst eg
          subst ed
          subst eo
          show wpAny _ _ _ _ _ _
          apply wpAny_pure
          show wpAny _ _ (ret Value.none) _ _ _
          rw [hn] at g
          exact wpAny_pure ⟨rfl, h2, tk2, L, es, ep, t, rfl, S, g, hp⟩
      · cases r2 with
        | error e => exact hr2
        | ok fl2 =>
          cases fl2 with
          | ret r =>
            obtain ⟨rfl, h2, tk, L, es, ep, t, rfl, hS2, g2, hk2⟩ := hr2
            repeat (any_goals (first | assumption | wp_step))
            exact h _ _ _ _ _ _ hS2 g2 hk2
          | _ => exact hr2.elim
    | _ => exact hr.elim
end
end Mn
end

section
set_option Elab.async false
set_option linter.all false
set_option maxRecDepth 100000
set_option maxHeartbeats 4000000
namespace Mn
open PySem PySem.Spec PyProof.Rows L2
mutual
def toP : D → PyData
  | .non => .none
  | .bl b => .bool b
  | .int i => .int i
  | .str s => .str (toS s)
  | .tup ds => .tuple (toPs ds)
  | .lst ds => .list (toPs ds)
  | .ref _ => .none
  | .exc _ _ => .none
def toPs : List D → List PyData
  | [] => []
  | d :: ds => toP d :: toPs ds
end
section
variable {L : Lk} {m : Hm} {H : Hp}
mutual
theorem Res.dp (rel : Rel L m H) : ∀ {d e : D} {v : V}, Res m d e → Rp L.F H d v → Dp L.F H v (toP e)
  | _, _, _, .non, .non => .non
  | _, _, _, .bl _, .bl b => .bl b
  | _, _, _, .int _, .int i => .int i
  | _, _, _, .str _, .str s => .str _
  | _, _, _, .tup r, .tup h q => .tup h.sq (Ress.dp rel r q)
  | _, _, _, .lst r, .lst h q => .lst h.sq (Ress.dp rel r q)
  | _, _, _, .ref e r, .ref _ => by
    obtain ⟨vs, h, q⟩ := rel _ _ e
    exact .lst (SqL.of h) (Ress.dp rel r q)
theorem Ress.dp (rel : Rel L m H) : ∀ {d e : List D} {v : List V}, Ress m d e → Rps L.F H d v → DpAll L.F H v (toPs e)
  | _, _, _, .nil, .nil => .nil
  | _, _, _, .cons a b, .cons p q => .cons (Res.dp rel a p) (Ress.dp rel b q)
end
end
theorem toS_ok {s : List Nat} (h : s.all (· < 1114112) = true) : PyData.strOk (toS s) = true := by
  unfold PyData.strOk toS
  simpa using h
mutual
theorem shp_lay : ∀ {n : Nat} {d : D}, D.shp n d = true → (toP d).canLay0 = true
  | _, .non, _ => by simp [toP, PyData.canLay0]
  | _, .bl b, _ => by simp [toP, PyData.canLay0]
  | _, .int i, _ => by simp [toP, PyData.canLay0]
  | _, .str s, h => by
    simp only [D.shp] at h
    simp only [toP, PyData.canLay0]
    exact toS_ok h
  | 0, .tup ds, h => by simp [D.shp] at h
  | n + 1, .tup ds, h => by
    simp only [D.shp] at h
    simp only [toP, PyData.canLay0]
    exact shps_lay h
  | 0, .lst ds, h => by simp [D.shp] at h
  | n + 1, .lst ds, h => by
    simp only [D.shp] at h
    simp only [toP, PyData.canLay0]
    exact shps_lay h
  | _, .ref _, h => by simp [D.shp] at h
  | _, .exc _ _, h => by simp [D.shp] at h
theorem shps_lay : ∀ {n : Nat} {ds : List D}, D.shps n ds = true → PyData.canLayAll0 (toPs ds) = true
  | _, [], _ => by simp [toPs, PyData.canLayAll0]
  | _, d :: ds, h => by
    simp only [D.shps, Bool.and_eq_true] at h
    simp only [toPs, PyData.canLayAll0, Bool.and_eq_true]
    exact ⟨shp_lay h.1, shps_lay h.2⟩
end
mutual
theorem shp_dep : ∀ {n : Nat} {d : D}, D.shp n d = true → (toP d).depth ≤ n
  | _, .non, _ => by simp [toP, PyData.depth]
  | _, .bl b, _ => by simp [toP, PyData.depth]
  | _, .int i, _ => by simp [toP, PyData.depth]
  | _, .str s, h => by simp [toP, PyData.depth]
  | 0, .tup ds, h => by simp [D.shp] at h
  | n + 1, .tup ds, h => by
    simp only [D.shp] at h
    simp only [toP, PyData.depth]
    have := shps_dep h
    omega
  | 0, .lst ds, h => by simp [D.shp] at h
  | n + 1, .lst ds, h => by
    simp only [D.shp] at h
    simp only [toP, PyData.depth]
    have := shps_dep h
    omega
  | _, .ref _, h => by simp [D.shp] at h
  | _, .exc _ _, h => by simp [D.shp] at h
theorem shps_dep : ∀ {n : Nat} {ds : List D}, D.shps n ds = true → PyData.depthAll (toPs ds) ≤ n
  | _, [], _ => by simp [toPs, PyData.depthAll]
  | _, d :: ds, h => by
    simp only [D.shps, Bool.and_eq_true] at h
    simp only [toPs, PyData.depthAll]
    have h1 := shp_dep h.1
    have h2 := shps_dep h.2
    omega
end
theorem shp_ok {d : D} (h : D.shp 60 d = true) : SeqAt.shaped (toP d) = true := by
  have h1 := shp_lay h
  have h2 := shp_dep h
  unfold SeqAt.shaped
  rw [h1, Bool.true_and, decide_eq_true_eq]
  omega
theorem shps_ok {ds : List D} (h : D.shps 60 ds = true) : SeqAt.shaped (.list (toPs ds)) = true := by
  have h1 := shps_lay h
  have h2 := shps_dep h
  unfold SeqAt.shaped
  rw [show (PyData.list (toPs ds)).canLay0 = true by simpa [PyData.canLay0] using h1, Bool.true_and, decide_eq_true_eq]
  simp only [PyData.depth]
  omega
theorem toS_beq (s t : List Nat) : (toS s == toS t) = (s == t) := by
  rw [Bool.eq_iff_iff]
  simp [toS]
mutual
theorem eqv_ok : ∀ (x y : D) {n k : Nat}, D.shp n x = true → D.shp k y = true → PyData.eqv (toP x) (toP y) = D.eqv x y
  | .non, y, _, _, _, h => by cases y <;> simp_all [toP, PyData.eqv, D.eqv, D.shp]
  | .bl a, y, _, _, _, h => by cases y <;> simp_all [toP, PyData.eqv, D.eqv, D.shp]
  | .int a, y, _, _, _, h => by cases y <;> simp_all [toP, PyData.eqv, D.eqv, D.shp]
  | .str a, y, _, _, _, h => by
    cases y with
    | str b => simp only [toP, PyData.eqv, D.eqv, toS_beq]
    | _ => simp_all [toP, PyData.eqv, D.eqv, D.shp]
  | .tup a, y, n, k, hx, h => by
    cases y with
    | tup b =>
      simp only [toP, PyData.eqv, D.eqv]
      cases n with
      | zero => simp [D.shp] at hx
      | succ n => cases k with
        | zero => simp [D.shp] at h
        | succ k => exact eqvs_ok a b (by simpa only [D.shp] using hx) (by simpa only [D.shp] using h)
    | _ => simp_all [toP, PyData.eqv, D.eqv, D.shp]
  | .lst a, y, n, k, hx, h => by
    cases y with
    | lst b =>
      simp only [toP, PyData.eqv, D.eqv]
      cases n with
      | zero => simp [D.shp] at hx
      | succ n => cases k with
        | zero => simp [D.shp] at h
        | succ k => exact eqvs_ok a b (by simpa only [D.shp] using hx) (by simpa only [D.shp] using h)
    | _ => simp_all [toP, PyData.eqv, D.eqv, D.shp]
  | .ref a, y, _, _, hx, _ => by simp [D.shp] at hx
  | .exc a c, y, _, _, hx, _ => by simp [D.shp] at hx
theorem eqvs_ok : ∀ (xs ys : List D) {n k : Nat}, D.shps n xs = true → D.shps k ys = true → PyData.eqvAll (toPs xs) (toPs ys) = D.eqvs xs ys
  | [], [], _, _, _, _ => by simp [toPs, PyData.eqvAll, D.eqvs]
  | [], _ :: _, _, _, _, _ => by simp [toPs, PyData.eqvAll, D.eqvs]
  | _ :: _, [], _, _, _, _ => by simp [toPs, PyData.eqvAll, D.eqvs]
  | x :: xs, y :: ys, _, _, hx, hy => by
    simp only [D.shps, Bool.and_eq_true] at hx hy
    simp only [toPs, PyData.eqvAll, D.eqvs]
    rw [eqv_ok x y hx.1 hy.1, eqvs_ok xs ys hx.2 hy.2]
end
theorem any_ok {x : D} (hx : D.shp 60 x = true) : ∀ {ds : List D}, D.shps 60 ds = true → ((toPs ds).any fun z => PyData.eqv z (toP x)) = ds.any fun z => D.eqv z x
  | [], _ => rfl
  | d :: ds, h => by
    simp only [D.shps, Bool.and_eq_true] at h
    simp only [toPs, List.any_cons]
    rw [eqv_ok d x h.1 hx, any_ok hx h.2]
mutual
theorem flat_shp : ∀ {n : Nat} {d : D}, D.flat n d = true → D.shp n d = true
  | _, .non, _ => by simp [D.shp]
  | _, .bl b, _ => by simp [D.shp]
  | _, .int i, _ => by simp [D.shp]
  | _, .str s, h => by simpa [D.shp, D.flat] using h
  | n, .tup ds, h => by
    cases n with
    | zero => simp [D.flat] at h
    | succ k => simpa [D.shp] using flats_shp (n := k) (ds := ds) (by simpa [D.flat] using h)
  | _, .lst _, h => by simp [D.flat] at h
  | _, .ref _, h => by simp [D.flat] at h
theorem flats_shp : ∀ {n : Nat} {ds : List D}, D.flats n ds = true → D.shps n ds = true
  | _, [], _ => by simp [D.shps]
  | n, d :: ds, h => by
    have h : D.flat n d = true ∧ D.flats n ds = true := by simpa [D.flats] using h
    simp [D.shps, flat_shp h.1, flats_shp h.2]
end
mutual
theorem flat_self {m : Hm} : ∀ {n : Nat} {d : D}, D.flat n d = true → Res m d d
  | _, .non, _ => .non
  | _, .bl b, _ => .bl b
  | _, .int i, _ => .int i
  | _, .str s, _ => .str s
  | n, .tup ds, h => by
    cases n with
    | zero => simp [D.flat] at h
    | succ k => exact .tup (flats_self (n := k) (ds := ds) (by simpa [D.flat] using h))
  | _, .lst _, h => by simp [D.flat] at h
  | _, .ref _, h => by simp [D.flat] at h
theorem flats_self {m : Hm} : ∀ {n : Nat} {ds : List D}, D.flats n ds = true → Ress m ds ds
  | _, [], _ => .nil
  | n, d :: ds, h => by
    have h : D.flat n d = true ∧ D.flats n ds = true := by simpa [D.flats] using h
    exact .cons (flat_self h.1) (flats_self h.2)
end
mutual
theorem alike_P : ∀ {x y : D}, D.alike x y = true → PySem.W.alike (toP x) (toP y) = true
  | .non, y, h => by simp [D.alike] at h
  | .bl a, y, h => by cases y <;> simp_all [D.alike, toP, PySem.W.alike]
  | .int a, y, h => by cases y <;> simp_all [D.alike, toP, PySem.W.alike]
  | .str a, y, h => by cases y <;> simp_all [D.alike, toP, PySem.W.alike]
  | .tup a, y, h => by
    cases y with
    | tup b =>
      simp only [toP, PySem.W.alike]
      exact alikes_P (by simpa only [D.alike] using h)
    | _ => simp [D.alike] at h
  | .lst _, y, h => by simp [D.alike] at h
  | .ref _, y, h => by simp [D.alike] at h
  | .exc _ _, y, h => by simp [D.alike] at h
theorem alikes_P : ∀ {x y : List D}, D.alikes x y = true → PySem.W.alikeAll (toPs x) (toPs y) = true
  | [], y, _ => by cases y <;> simp [toPs, PySem.W.alikeAll]
  | _ :: _, [], _ => by simp [toPs, PySem.W.alikeAll]
  | a :: x, b :: y, h => by
    simp only [D.alikes, Bool.and_eq_true] at h
    simp only [toPs, PySem.W.alikeAll, Bool.and_eq_true]
    exact ⟨alike_P h.1, alikes_P h.2⟩
end
theorem natLt_cps : ∀ (s t : List Nat), natLt s t = decide (s < t)
  | [], [] => by simp [natLt]
  | _ :: _, [] => by simp [natLt]
  | [], _ :: _ => by simp [natLt]
  | x :: xs, y :: ys => by
    simp only [natLt, List.cons_lt_cons_iff, natLt_cps xs ys]
    by_cases e : x = y
    · subst e
      simp
    · rw [if_neg e]
      simp [e]
mutual
theorem lt_P : ∀ {n k : Nat} {x y : D}, D.alike x y = true → D.flat n x = true → D.flat k y = true → PySem.W.dataLt (toP x) (toP y) = D.lt x y
  | _, _, .non, y, h, _, _ => by simp [D.alike] at h
  | _, _, .bl a, y, h, _, _ => by
    cases y with
    | bl b => simp only [toP, PySem.W.dataLt_bool, D.lt]; cases a <;> cases b <;> decide
    | _ => simp [D.alike] at h
  | _, _, .int a, y, h, _, _ => by
    cases y with
    | int b => simp only [toP, PySem.W.dataLt_int, D.lt]
    | _ => simp [D.alike] at h
  | _, _, .str a, y, h, _, _ => by
    cases y with
    | str b => simp only [toP, PySem.W.dataLt_str, D.lt, toS_list, natLt_cps]
    | _ => simp [D.alike] at h
  | n, k, .tup a, y, h, hx, hy => by
    cases y with
    | tup b =>
      cases n with
      | zero => simp [D.flat] at hx
      | succ n => cases k with
        | zero => simp [D.flat] at hy
        | succ k =>
          simp only [toP, PySem.W.dataLt_tuple, D.lt]
          exact lts_P (n := n) (k := k) (by simpa only [D.alike] using h) (by simpa only [D.flat] using hx) (by simpa only [D.flat] using hy)
    | _ => simp [D.alike] at h
  | _, _, .lst _, y, h, _, _ => by simp [D.alike] at h
  | _, _, .ref _, y, h, _, _ => by simp [D.alike] at h
  | _, _, .exc _ _, y, h, _, _ => by simp [D.alike] at h
theorem lts_P : ∀ {n k : Nat} {x y : List D}, D.alikes x y = true → D.flats n x = true → D.flats k y = true →
    PyProof.Rows.lexLt PyProof.Rows.itemOrd (PySem.W.keyToksAll (toPs x)) (PySem.W.keyToksAll (toPs y)) = D.lts x y
  | _, _, [], [], _, _, _ => by simp [toPs, D.lts, PySem.W.keyToksAll, PyProof.Rows.lexLt, PyProof.Rows.itemOrd, PyProof.Rows.itemLt]
  | _, _, [], y :: ys, _, _, _ => by simp [toPs, D.lts, PySem.W.keyToksAll, PyProof.Rows.lexLt, PyProof.Rows.itemOrd, PyProof.Rows.itemLt]
  | _, _, x :: xs, [], _, _, _ => by simp [toPs, D.lts, PySem.W.keyToksAll, PyProof.Rows.lexLt, PyProof.Rows.itemOrd, PyProof.Rows.itemLt]
  | n, k, x :: xs, y :: ys, h, hx, hy => by
    simp only [D.alikes, Bool.and_eq_true] at h
    simp only [D.flats, Bool.and_eq_true] at hx hy
    simp only [toPs, D.lts]
    rw [PySem.W.dataLt_cons (alike_P h.1), eqv_ok x y (flat_shp hx.1) (flat_shp hy.1), lts_P h.2 hx.2 hy.2, lt_P h.1 hx.1 hy.1]
end
mutual
theorem alike_sym : ∀ {x y : D}, D.alike x y = true → D.alike y x = true
  | .non, y, h => by simp [D.alike] at h
  | .bl a, y, h => by cases y <;> simp_all [D.alike]
  | .int a, y, h => by cases y <;> simp_all [D.alike]
  | .str a, y, h => by cases y <;> simp_all [D.alike]
  | .tup a, y, h => by
    cases y with
    | tup b => simp only [D.alike]; exact alikes_sym (by simpa only [D.alike] using h)
    | _ => simp [D.alike] at h
  | .lst _, y, h => by simp [D.alike] at h
  | .ref _, y, h => by simp [D.alike] at h
  | .exc _ _, y, h => by simp [D.alike] at h
theorem alikes_sym : ∀ {x y : List D}, D.alikes x y = true → D.alikes y x = true
  | [], y, _ => by cases y <;> simp [D.alikes]
  | _ :: _, [], _ => by simp [D.alikes]
  | a :: x, b :: y, h => by
    simp only [D.alikes, Bool.and_eq_true] at h ⊢
    exact ⟨alike_sym h.1, alikes_sym h.2⟩
end
theorem ordT {L : Lk} {m : Hm} {H : Hp} {xs ys : List D} {v u : V} (h : cmpOk xs ys = true) (rx : Rp L.F H (.tup xs) v) (ry : Rp L.F H (.tup ys) u) (rel : Rel L m H) :
    ∃ d e, Dp L.F H v d ∧ Dp L.F H u e ∧ PySem.W.alike d e = true ∧ d ≠ .none ∧ d.depth ≤ 60 ∧ PySem.W.dataLt d e = D.lts xs ys ∧ PySem.W.dataLt e d = D.lts ys xs := by
  simp only [cmpOk, Bool.and_eq_true] at h
  obtain ⟨⟨h3, h4⟩, h5⟩ := h
  have a : D.alike (.tup xs) (.tup ys) = true := by simpa only [D.alike] using h3
  have f1 : D.flat 60 (.tup xs) = true := by simpa only [D.flat] using h4
  have f2 : D.flat 60 (.tup ys) = true := by simpa only [D.flat] using h5
  have e1 := lt_P a f1 f2
  have e2 := lt_P (alike_sym a) f2 f1
  simp only [D.lt] at e1 e2
  exact ⟨_, _, (flat_self (m := m) f1).dp rel rx, (flat_self (m := m) f2).dp rel ry, alike_P a, by simp [toP], shp_dep (flat_shp f1), e1, e2⟩
def rOrdD (K : PySem.W.Frag) (f : PyData → PyData → Bool) : R2 := fun x y H Q => ∃ d e, Dp K H x d ∧ Dp K H y e ∧ PySem.W.alike d e = true ∧ d ≠ .none ∧ d.depth ≤ 60 ∧ Q (.bl (f d e)) H
section
variable {X : Cx}
theorem room_d {d e : PyData} (hu : X.A.units + 65 < cLine) (h : d.depth ≤ 60) : X.A.units + min d.depth e.depth < cLine := by
  have := Nat.min_le_left d.depth e.depth
  omega
theorem op_ltD (hu : X.A.units + 65 < cLine) : OpR X (compareOp .Lt) (rOrdD X.K PySem.W.dataLt) := by
  intro pins s σ H x y v u Q I rx ry h
  obtain ⟨d, e, hd, he, a, n, z, q⟩ := h
  obtain ⟨as, r1⟩ := Dp.reads I d x v hd rx
  obtain ⟨bs, r2⟩ := Dp.reads I e y u he ry
  exact PySem.W.lt_data r1 r2 a n (room_d hu z) ⟨.bl _, H, I, rfl, q⟩
theorem op_leD (hu : X.A.units + 65 < cLine) : OpR X (compareOp .LtE) (rOrdD X.K fun d e => !PySem.W.dataLt e d) := by
  intro pins s σ H x y v u Q I rx ry h
  obtain ⟨d, e, hd, he, a, n, z, q⟩ := h
  obtain ⟨as, r1⟩ := Dp.reads I d x v hd rx
  obtain ⟨bs, r2⟩ := Dp.reads I e y u he ry
  exact PySem.W.le_data r1 r2 a n (room_d hu z) ⟨.bl _, H, I, rfl, q⟩
theorem op_gtD (hu : X.A.units + 65 < cLine) : OpR X (compareOp .Gt) (rOrdD X.K fun d e => PySem.W.dataLt e d) := by
  intro pins s σ H x y v u Q I rx ry h
  obtain ⟨d, e, hd, he, a, n, z, q⟩ := h
  obtain ⟨as, r1⟩ := Dp.reads I d x v hd rx
  obtain ⟨bs, r2⟩ := Dp.reads I e y u he ry
  exact PySem.W.gt_data r1 r2 a n (room_d hu z) ⟨.bl _, H, I, rfl, q⟩
theorem op_geD (hu : X.A.units + 65 < cLine) : OpR X (compareOp .GtE) (rOrdD X.K fun d e => !PySem.W.dataLt d e) := by
  intro pins s σ H x y v u Q I rx ry h
  obtain ⟨d, e, hd, he, a, n, z, q⟩ := h
  obtain ⟨as, r1⟩ := Dp.reads I d x v hd rx
  obtain ⟨bs, r2⟩ := Dp.reads I e y u he ry
  exact PySem.W.ge_data r1 r2 a n (room_d hu z) ⟨.bl _, H, I, rfl, q⟩
def rInT (K : PySem.W.Frag) (neg : Bool) : R2 := fun x y H Q => ∃ d ds, Dp K H x d ∧ Dp K H y (.tuple ds) ∧ SeqAt.shaped d = true ∧ SeqAt.shaped (.tuple ds) = true ∧ Q (.bl (xor neg (ds.any fun z => PyData.eqv z d))) H
theorem op_inT (hu : X.A.units + 65 < cLine) : OpR X (compareOp .In) (rInT X.K false) := by
  intro pins s σ H x y v u Q I rx ry h
  obtain ⟨d, ds, hd, he, sd, se, q⟩ := h
  obtain ⟨as, r1⟩ := Dp.reads I d x v hd rx
  obtain ⟨bs, r2⟩ := Dp.reads I (.tuple ds) y u he ry
  exact SeqAt.in_tuple_reads r2 r1 (SeqAt.canLay_of_shaped se) (SeqAt.canLay_of_shaped sd) (room_in_shaped sd hu) ⟨.bl _, H, I, rfl, by simpa using q⟩
theorem op_notInT (hu : X.A.units + 65 < cLine) : OpR X (compareOp .NotIn) (rInT X.K true) := by
  intro pins s σ H x y v u Q I rx ry h
  obtain ⟨d, ds, hd, he, sd, se, q⟩ := h
  obtain ⟨as, r1⟩ := Dp.reads I d x v hd rx
  obtain ⟨bs, r2⟩ := Dp.reads I (.tuple ds) y u he ry
  exact SeqAt.notIn_tuple_reads r2 r1 (SeqAt.canLay_of_shaped se) (SeqAt.canLay_of_shaped sd) (room_in_shaped sd hu) ⟨.bl _, H, I, rfl, by simpa using q⟩
end
mutual
theorem nk_inj : ∀ {n k : Nat} {x y : D}, D.keyd n x = true → D.keyd k y = true → nk x = nk y → x = y
  | _, _, .int a, y, _, hy, e => by cases y <;> simp_all [nk, D.keyd]
  | _, _, .str a, y, _, hy, e => by
    cases y with
    | str b =>
      simp only [nk] at e
      have e2 : toS a = toS b := NestedKey.text.inj e
      have e3 : (toS a).cps.toList = (toS b).cps.toList := by rw [e2]
      rw [toS_list, toS_list] at e3
      rw [e3]
    | _ => simp_all [nk, D.keyd]
  | n, k, .tup a, y, hx, hy, e => by
    cases y with
    | tup b =>
      cases n with
      | zero => simp [D.keyd] at hx
      | succ n => cases k with
        | zero => simp [D.keyd] at hy
        | succ k =>
          simp only [nk] at e
          rw [nks_inj (n := n) (k := k) (x := a) (y := b) (by simpa only [D.keyd] using hx) (by simpa only [D.keyd] using hy) (NestedKey.tup.inj e)]
    | _ => simp_all [nk, D.keyd]
  | _, _, .non, _, hx, _, _ => by simp [D.keyd] at hx
  | _, _, .bl _, _, hx, _, _ => by simp [D.keyd] at hx
  | _, _, .lst _, _, hx, _, _ => by simp [D.keyd] at hx
  | _, _, .ref _, _, hx, _, _ => by simp [D.keyd] at hx
  | _, _, .exc _ _, _, hx, _, _ => by simp [D.keyd] at hx
theorem nks_inj : ∀ {n k : Nat} {x y : List D}, D.keyds n x = true → D.keyds k y = true → nks x = nks y → x = y
  | _, _, [], [], _, _, _ => rfl
  | _, _, [], _ :: _, _, _, e => by simp [nks] at e
  | _, _, _ :: _, [], _, _, e => by simp [nks] at e
  | n, k, a :: x, b :: y, hx, hy, e => by
    simp only [D.keyds, Bool.and_eq_true] at hx hy
    simp only [nks, List.cons.injEq] at e
    rw [nk_inj hx.1 hy.1 e.1, nks_inj hx.2 hy.2 e.2]
end
theorem nkT_inj {x y : List D} (hx : D.keyds 7 x = true) (hy : D.keyds 7 y = true) (e : nkT x = nkT y) : x = y := nks_inj hx hy (NestedKey.tup.inj e)
mutual
theorem nk_depth : ∀ {n : Nat} {x : D}, D.keyd n x = true → (nk x).depth ≤ n
  | _, .int a, _ => by simp [nk, NestedKey.depth]
  | _, .str a, _ => by simp [nk, NestedKey.depth]
  | n, .tup a, hx => by
    cases n with
    | zero => simp [D.keyd] at hx
    | succ n =>
      simp only [nk, NestedKey.depth]
      have := nks_depth (n := n) (x := a) (by simpa only [D.keyd] using hx)
      omega
  | _, .non, hx => by simp [D.keyd] at hx
  | _, .bl _, hx => by simp [D.keyd] at hx
  | _, .lst _, hx => by simp [D.keyd] at hx
  | _, .ref _, hx => by simp [D.keyd] at hx
  | _, .exc _ _, hx => by simp [D.keyd] at hx
theorem nks_depth : ∀ {n : Nat} {x : List D}, D.keyds n x = true → NestedKey.depthAll (nks x) ≤ n
  | _, [], _ => by simp [nks, NestedKey.depthAll]
  | n, a :: x, hx => by
    simp only [D.keyds, Bool.and_eq_true] at hx
    simp only [nks, NestedKey.depthAll]
    have h1 := nk_depth hx.1
    have h2 := nks_depth hx.2
    omega
end
section
variable {X : Cx} {L : Lk} {pins : List (Addr × Obj)} {σ : L2.St} {H : Hp} {s : Shared}
mutual
theorem key_is (hk : X.K = L.F) (I : Inv X pins σ H s) : ∀ {n : Nat} {x : D} {v : V} {u : Value}, D.keyd n x = true → Rp L.F H x v → RelV v u → NestedIs s.heap (nk x) u
  | _, .int i, _, _, _, .int _, r => by
    obtain ⟨t, rfl⟩ := r
    exact .int _ _
  | _, .str i, _, _, _, .str _, r => by
    obtain ⟨t, rfl⟩ := r
    exact .text _ _
  | n, .tup ds, _, u, h, .tup sq rs, r => by
    cases n with
    | zero => simp [D.keyd] at h
    | succ n =>
      obtain rfl := (show u = Value.ref _ from r)
      have sq2 := sq.sq
      rw [← hk] at sq2
      obtain ⟨its, rv, ⟨o, ho, hc, m, hd⟩, _⟩ := I.tuple sq2
      simp only [nk]
      exact .tup ho hc hd (by simpa using keys_is hk I (n := n) (by simpa only [D.keyd] using h) rs rv)
  | _, .non, _, _, h, _, _ => by simp [D.keyd] at h
  | _, .bl _, _, _, h, _, _ => by simp [D.keyd] at h
  | _, .lst _, _, _, h, _, _ => by simp [D.keyd] at h
  | _, .ref _, _, _, h, _, _ => by simp [D.keyd] at h
  | _, .exc _ _, _, _, h, _, _ => by simp [D.keyd] at h
theorem keys_is (hk : X.K = L.F) (I : Inv X pins σ H s) : ∀ {n : Nat} {x : List D} {v : List V} {u : List Value}, D.keyds n x = true → Rps L.F H x v → Vals v u → NestedAll s.heap (nks x) u
  | _, [], _, _, _, .nil, .nil => .nil
  | n, d :: ds, _, _, h, .cons r rs, .cons a b => by
    simp only [D.keyds, Bool.and_eq_true] at h
    exact .cons (key_is hk I h.1 r a) (keys_is hk I h.2 rs b)
end
theorem keyT_is (hk : X.K = L.F) (I : Inv X pins σ H s) {ks : List D} {b : Addr} (h : D.keyds 7 ks = true) (r : Rp L.F H (.tup ks) (.ref b)) : (nestedKind X.prog X.w).is s.heap (nkT ks) b := by
  refine ⟨key_is hk I (n := 8) (by simpa only [D.keyd] using h) r rfl, ?_⟩
  have := nks_depth h
  simp only [nkT, NestedKey.depth]
  omega
theorem keysIn_of (hk : X.K = L.F) (I : Inv X pins σ H s) {kvs : List (List D × D)} {xs : List XE} (r : DtR L.F H kvs xs) : KeysIn X.prog X.w s.heap xs := by
  induction r with
  | nil => intro x hx; cases hx
  | @cons p q ps qs h t ih =>
    intro x hx
    rcases List.mem_cons.mp hx with e | hx
    · subst e
      rw [h.1]
      exact keyT_is hk I h.2.1 h.2.2.1
    · exact ih x hx
/-- at a a dict with tuples for keys, perhaps an empty one of any kind -/
def DtV (L : Lk) (H : Hp) (a : Addr) (kvs : List (List D × D)) (xs : List XE) : Prop := (DtAt L.w H a xs ∧ DtR L.F H kvs xs) ∨ (H a = some (.dK []) ∧ kvs = [] ∧ xs = [])
theorem DtV.now {a : Addr} {kvs : List (List D × D)} {xs : List XE} (hk : X.K = L.F) (hw : X.w = L.w) (D : DtV L H a kvs xs) (I : Inv X pins σ H s) : DtNow X H s.heap a xs := by
  rcases D with ⟨d, r⟩ | ⟨e, rfl, rfl⟩
  · rw [← hw] at d
    exact d.now I (keysIn_of hk I r)
  · exact dt_empty I e
theorem DtV.r {a : Addr} {kvs : List (List D × D)} {xs : List XE} (D : DtV L H a kvs xs) : DtR L.F H kvs xs := by
  rcases D with ⟨_, r⟩ | ⟨_, rfl, rfl⟩
  · exact r
  · exact .nil
end
section
variable {F : PySem.W.Frag} {H : Hp} {kvs : List (List D × D)} {xs : List XE} {ks : List D}
theorem lookT (hs : D.keyds 7 ks = true) (r : DtR F H kvs xs) : (Mn.look kvs ks = none ∧ getX xs (nkT ks) = none) ∨ ∃ d v, Mn.look kvs ks = some d ∧ getX xs (nkT ks) = some v ∧ Rp F H d v := by
  induction r with
  | nil => exact .inl ⟨rfl, rfl⟩
  | @cons p q ps qs h t ih =>
    by_cases e : p.1 = ks
    · refine .inr ⟨p.2, q.2.2, ?_, ?_, h.2.2.2⟩
      · simp [Mn.look, List.find?_cons, e]
      · have e2 : q.1 = nkT ks := by rw [h.1, e]
        simp [getX, List.find?_cons, e2]
    · have e2 : ¬ q.1 = nkT ks := fun z => e (nkT_inj h.2.1 hs (by rw [← h.1, z]))
      have l1 : Mn.look (p :: ps) ks = Mn.look ps ks := by simp [Mn.look, List.find?_cons, e]
      have l2 : getX (q :: qs) (nkT ks) = getX qs (nkT ks) := by simp [getX, List.find?_cons, e2]
      rw [l1, l2]
      exact ih
theorem hasX_get {k : NestedKey} : hasX xs k = (getX xs k).isSome := by
  unfold hasX getX
  induction xs with
  | nil => rfl
  | cons p ps ih =>
    by_cases e : p.1 = k
    · simp [List.find?_cons, e]
    · simp only [List.any_cons, List.find?_cons, e, decide_false, Bool.false_or]; exact ih
theorem hasT (hs : D.keyds 7 ks = true) (r : DtR F H kvs xs) : hasX xs (nkT ks) = (Mn.look kvs ks).isSome := by
  rw [hasX_get]
  rcases lookT hs r with ⟨e1, e2⟩ | ⟨d, v, e1, e2, _⟩ <;> rw [e1, e2] <;> rfl
theorem look_any : (kvs.any fun kv => decide (kv.1 = ks)) = (Mn.look kvs ks).isSome := by
  unfold Mn.look
  induction kvs with
  | nil => rfl
  | cons p ps ih =>
    by_cases e : p.1 = ks
    · simp [List.find?_cons, e]
    · simp only [List.any_cons, List.find?_cons, e, decide_false, Bool.false_or]; exact ih
theorem putT {d : D} {v : V} {b : Addr} (hs : D.keyds 7 ks = true) (rk : Rp F H (.tup ks) (.ref b)) (rd : Rp F H d v) (r : DtR F H kvs xs) : DtR F H (putk kvs ks d) (putX xs (nkT ks) b v) := by
  unfold putk putX
  rw [look_any, hasT hs r]
  split
  · rename_i hh
    clear rk hh
    induction r with
    | nil => exact .nil
    | @cons p q ps qs h t ih =>
      refine .cons ?_ ih
      show KeyR F H (if p.1 = ks then (p.1, d) else p) (if q.1 = nkT ks then (q.1, q.2.1, v) else q)
      by_cases e : p.1 = ks
      · rw [if_pos e, if_pos (show q.1 = nkT ks by rw [h.1, e])]
        exact ⟨h.1, h.2.1, h.2.2.1, rd⟩
      · rw [if_neg e, if_neg (show ¬ q.1 = nkT ks from fun z => e (nkT_inj h.2.1 hs (by rw [← h.1, z])))]
        exact h
  · exact Paired.snoc r (show KeyR F H (ks, d) (nkT ks, b, v) from ⟨rfl, hs, rk, rd⟩)
theorem dropT (hs : D.keyds 7 ks = true) (r : DtR F H kvs xs) : DtR F H (dropk kvs ks) (dropX xs (nkT ks)) := by
  unfold dropk dropX
  induction r with
  | nil => exact .nil
  | @cons p q ps qs h t ih =>
    rw [List.filter_cons, List.filter_cons]
    by_cases e : p.1 = ks
    · have e2 : q.1 = nkT ks := by rw [h.1, e]
      simp only [e, e2, ne_eq, not_true_eq_false, decide_false, Bool.false_eq_true, if_false]
      exact ih
    · have e2 : ¬ q.1 = nkT ks := fun z => e (nkT_inj h.2.1 hs (by rw [← h.1, z]))
      simp only [e, e2, ne_eq, not_false_eq_true, decide_true, if_true]
      exact .cons h ih
theorem DtR.len (r : DtR F H kvs xs) : kvs.length = xs.length := Paired.length r
end
def rDtIn (L : Lk) (neg : Bool) : R2 := fun y x H Q => ∃ a kvs xs ks, x = .ref a ∧ DtV L H a kvs xs ∧ Rp L.F H (.tup ks) y ∧ D.keyds 7 ks = true ∧ Q (.bl (xor neg (Mn.look kvs ks).isSome)) H
theorem Rp.tup_ref {F : PySem.W.Frag} {H : Hp} {ks : List D} {v : V} (r : Rp F H (.tup ks) v) : ∃ b, v = .ref b := by
  cases r with
  | @tup _ a _ _ _ => exact ⟨a, rfl⟩
section
variable {X : Cx} {L : Lk}
theorem op_dtIn (hk : X.K = L.F) (hw : X.w = L.w) (hu : X.A.units + 65 < cLine) : OpR X (compareOp .In) (rDtIn L false) := by
  intro pins s σ H y x u v Q I ry rx h
  obtain ⟨a, kvs, xs, ks, rfl, D, rk, hs, q⟩ := h
  obtain rfl : v = Value.ref a := rx
  obtain ⟨b, rfl⟩ := rk.tup_ref
  obtain rfl : u = Value.ref b := ry
  refine dt_in (by omega) I (D.now hk hw I) (keyT_is hk I hs rk) fun s2 I2 => ⟨.bl _, H, I2, rfl, ?_⟩
  rw [hasT hs D.r]
  simpa using q
theorem op_dtNotIn (hk : X.K = L.F) (hw : X.w = L.w) (hu : X.A.units + 65 < cLine) : OpR X (compareOp .NotIn) (rDtIn L true) := by
  intro pins s σ H y x u v Q I ry rx h
  obtain ⟨a, kvs, xs, ks, rfl, D, rk, hs, q⟩ := h
  obtain rfl : v = Value.ref a := rx
  obtain ⟨b, rfl⟩ := rk.tup_ref
  obtain rfl : u = Value.ref b := ry
  refine dt_notIn (by omega) I (D.now hk hw I) (keyT_is hk I hs rk) fun s2 I2 => ⟨.bl _, H, I2, rfl, ?_⟩
  rw [hasT hs D.r]
  simpa using q
end
def rDIn (neg : Bool) : R2 := fun y x H Q => ∃ a o, x = .ref a ∧ DGet H a y o ∧ Q (.bl (xor neg o.isSome)) H
section
variable {X : Cx}
theorem op_dIn (hu : X.A.units + 1 < cLine) : OpR X (compareOp .In) (rDIn false) := by
  intro pins s σ H y x u v Q I ry rx h
  obtain ⟨a, o, rfl, g, q⟩ := h
  obtain rfl : v = Value.ref a := rx
  exact d_in hu I g ry fun s1 I1 => ⟨.bl o.isSome, H, I1, rfl, by simpa using q⟩
theorem op_dNotIn (hu : X.A.units + 1 < cLine) : OpR X (compareOp .NotIn) (rDIn true) := by
  intro pins s σ H y x u v Q I ry rx h
  obtain ⟨a, o, rfl, g, q⟩ := h
  obtain rfl : v = Value.ref a := rx
  exact d_notIn hu I g ry fun s1 I1 => ⟨.bl (!o.isSome), H, I1, rfl, by simpa using q⟩
def rIsRef (neg : Bool) : R2 := fun x y H Q => ∃ a b oa ob, x = .ref a ∧ y = .ref b ∧ H a = some oa ∧ isObj oa = true ∧ H b = some ob ∧ isObj ob = true ∧ Q (.bl (xor neg (decide (a = b)))) H
theorem op_isRef : OpR X (compareOp .Is) (rIsRef false) := by
  intro pins s σ H x y v u Q I rx ry h
  obtain ⟨a, b, oa, ob, e1, e2, h1, h2, h3, h4, q⟩ := h
  exact op_is_ref pins s σ H x y v u Q I rx ry ⟨a, b, oa, ob, e1, e2, h1, h2, h3, h4, by simpa using q⟩
theorem op_isnRef : OpR X (compareOp .IsNot) (rIsRef true) := by
  intro pins s σ H x y v u Q I rx ry h
  obtain ⟨a, b, oa, ob, e1, e2, h1, h2, h3, h4, q⟩ := h
  exact op_isnot_ref pins s σ H x y v u Q I rx ry ⟨a, b, oa, ob, e1, e2, h1, h2, h3, h4, by simpa using q⟩
def rEqK (F : PySem.W.Frag) (neg : Bool) : R2 := fun x y H Q => ∃ a b ks ls r, x = .ref a ∧ y = .ref b ∧ H a = some (.dK ks) ∧ H b = some (.dK ls) ∧ KHit F H ls ks r ∧ Q (.bl (xor neg ((ks.length == ls.length) && r))) H
theorem khit_run {pins : List (Addr × Obj)} {σ : L2.St} {H : Hp} {s : Shared} {A : Around} (I : Inv X pins σ H s) (hu : A.in1.units + 64 < cLine) {ls : List (Key × V)} {vb : List (Key × Value)} (rb : KV ls vb) :
    ∀ {ks : List (Key × V)} {va : List (Key × Value)} {r : Bool}, KV ks va → KHit X.K H ls ks r → PySem.W.KeqHits A.in1 s vb va r := by
  intro ks va r ra
  unfold KV at ra
  induction ra generalizing r with
  | nil => intro h; cases h; exact .nil
  | @cons p q ps qs h t ih =>
    intro hk
    obtain ⟨k, v⟩ := p
    obtain ⟨k2, v2⟩ := q
    obtain ⟨h1, h2⟩ := h
    have h1 : k = k2 := h1
    subst h1
    have rr := rb.val k
    cases hk with
    | miss hn =>
      rw [hn] at rr
      refine .miss ?_
      cases e : valueAt vb k with
      | none => rfl
      | some y => rw [e] at rr; cases rr
    | hit hy hd he sd se hr =>
      rw [hy] at rr
      obtain ⟨y, e, ry⟩ := rr.some_of
      obtain ⟨as, r1⟩ := Dp.reads I _ _ _ hd h2
      obtain ⟨bs, r2⟩ := Dp.reads I _ _ _ he ry
      exact .hit e (PySem.W.keq_at r1 r2 sd se hu) (ih hr)
theorem op_eqK (hu : X.A.units + 65 < cLine) : OpR X (compareOp .Eq) (rEqK X.K false) := by
  intro pins s σ H x y v u Q I rx ry h
  obtain ⟨a, b, ks, ls, r, rfl, rfl, ha, hb, hk, q⟩ := h
  cases (show v = Value.ref a from rx)
  cases (show u = Value.ref b from ry)
  obtain ⟨_, ya, va, ra, da⟩ := (show ObjOk X.prog X.w H s.heap a (.dK ks) from I.hok a _ ha)
  obtain ⟨_, yb, vb, rb, db⟩ := (show ObjOk X.prog X.w H s.heap b (.dK ls) from I.hok b _ hb)
  refine PySem.W.keq_eq (knd := mixKind X.prog X.w) (r := r) ya yb da db (by omega) (fun _ => khit_run I (by show X.A.units + 1 + 64 < cLine; omega) rb ra hk) ?_
  rw [← ra.length, ← rb.length]
  exact ⟨.bl _, H, I, rfl, by simpa using q⟩
theorem op_neK (hu : X.A.units + 65 < cLine) : OpR X (compareOp .NotEq) (rEqK X.K true) := by
  intro pins s σ H x y v u Q I rx ry h
  obtain ⟨a, b, ks, ls, r, rfl, rfl, ha, hb, hk, q⟩ := h
  cases (show v = Value.ref a from rx)
  cases (show u = Value.ref b from ry)
  obtain ⟨_, ya, va, ra, da⟩ := (show ObjOk X.prog X.w H s.heap a (.dK ks) from I.hok a _ ha)
  obtain ⟨_, yb, vb, rb, db⟩ := (show ObjOk X.prog X.w H s.heap b (.dK ls) from I.hok b _ hb)
  refine PySem.W.keq_ne (knd := mixKind X.prog X.w) (r := r) ya yb da db (by omega) (fun _ => khit_run I (by show X.A.units + 1 + 64 < cLine; omega) rb ra hk) ?_
  rw [← ra.length, ← rb.length]
  exact ⟨.bl (!((ks.length == ls.length) && r)), H, I, rfl, by rw [Bool.true_xor] at q; exact q⟩
def cmpR0 (F : PySem.W.Frag) : Cop → R2
  | .eq => fun x y H Q => rEq x y H Q ∨ rEqD F x y H Q ∨ rEqK F false x y H Q
  | .ne => fun x y H Q => rNe x y H Q ∨ rNeD F x y H Q ∨ rEqK F true x y H Q
  | .lt => fun x y H Q => rI0 (fun i j => .bl (decide (i < j))) x y H Q ∨ (∃ i j, x = .str i ∧ y = .str j ∧ Q (.bl (decide (i.cps.toList < j.cps.toList))) H) ∨ rOrdD F PySem.W.dataLt x y H Q
  | .le => fun x y H Q => rI0 (fun i j => .bl (decide (i ≤ j))) x y H Q ∨ (∃ i j, x = .str i ∧ y = .str j ∧ Q (.bl (!decide (j.cps.toList < i.cps.toList))) H) ∨ rOrdD F (fun d e => !PySem.W.dataLt e d) x y H Q
  | .gt => fun x y H Q => rI0 (fun i j => .bl (decide (j < i))) x y H Q ∨ (∃ i j, x = .str i ∧ y = .str j ∧ Q (.bl (decide (j.cps.toList < i.cps.toList))) H) ∨ rOrdD F (fun d e => PySem.W.dataLt e d) x y H Q
  | .ge => fun x y H Q => rI0 (fun i j => .bl (decide (j ≤ i))) x y H Q ∨ (∃ i j, x = .str i ∧ y = .str j ∧ Q (.bl (!decide (i.cps.toList < j.cps.toList))) H) ∨ rOrdD F (fun d e => !PySem.W.dataLt d e) x y H Q
  | .is_ => fun x y H Q => rIsB x y H Q ∨ (y = .non ∧ Q (.bl (decide (x = .non))) H) ∨ rIsRef false x y H Q
  | .isn => fun x y H Q => rNotB x y H Q ∨ (y = .non ∧ Q (.bl (!decide (x = .non))) H) ∨ rIsRef true x y H Q
  | .in_ => fun x y H Q => rIn F false x y H Q ∨ (∃ (c : Nat) (z : Str), x = .str ⟨#[c]⟩ ∧ y = .str z ∧ Q (.bl (decide (c ∈ z.cps.toList))) H) ∨ rInD F x y H Q ∨ rDIn false x y H Q ∨ rInT F false x y H Q
  | .nin => fun x y H Q => rIn F true x y H Q ∨ (∃ (c : Nat) (z : Str), x = .str ⟨#[c]⟩ ∧ y = .str z ∧ Q (.bl (!decide (c ∈ z.cps.toList))) H) ∨ rNotInD F x y H Q ∨ rDIn true x y H Q ∨ rInT F true x y H Q
theorem cmpS0 (hu : X.A.units + 65 < cLine) : ∀ op : Cop, OpR X (compareOp (copO op)) (cmpR0 X.K op)
  | .eq => op_eq.or ((op_eqD (by omega)).or (op_eqK hu))
  | .ne => op_ne.or ((op_neD (by omega)).or (op_neK hu))
  | .lt => op_lt.or (op_lt_str.or (op_ltD hu))
  | .le => op_le.or (op_le_str.or (op_leD hu))
  | .gt => op_gt.or (op_gt_str.or (op_gtD hu))
  | .ge => op_ge.or (op_ge_str.or (op_geD hu))
  | .is_ => op_isBl.or (op_isN.or op_isRef)
  | .isn => op_notBl.or (op_notN.or op_isnRef)
  | .in_ => op_in_seq.or (op_in_sign.or ((op_inD hu).or ((op_dIn (by omega)).or (op_inT hu))))
  | .nin => op_notIn_seq.or (op_notIn_sign.or ((op_notInD hu).or ((op_dNotIn (by omega)).or (op_notInT hu))))
def cmpR (L : Lk) : Cop → R2
  | .in_ => fun x y H Q => cmpR0 L.F .in_ x y H Q ∨ rDtIn L false x y H Q
  | .nin => fun x y H Q => cmpR0 L.F .nin x y H Q ∨ rDtIn L true x y H Q
  | op => cmpR0 L.F op
theorem cmpS {L : Lk} (hk : X.K = L.F) (hw : X.w = L.w) (hu : X.A.units + 65 < cLine) (op : Cop) : OpR X (compareOp (copO op)) (cmpR L op) := by
  have h := cmpS0 hu op
  rw [hk] at h
  cases op with
  | in_ => exact h.or (op_dtIn hk hw hu)
  | nin => exact h.or (op_dtNotIn hk hw hu)
  | _ => exact h
end
theorem kyV_inj {a b : Ky} (h : kyV a = kyV b) : a = b := by
  cases a with
  | inl i => cases b with
    | inl j => cases h; rfl
    | inr t => cases h
  | inr s => cases b with
    | inl j => cases h
    | inr t =>
      have h1 : toS s = toS t := Sum.inr.inj h
      have h2 : (toS s).cps.toList = (toS t).cps.toList := by rw [h1]
      rw [toS_list, toS_list] at h2
      rw [h2]
section
variable {F : PySem.W.Frag} {H : Hp} {κ ι : Type} [DecidableEq κ] [DecidableEq ι] {inj : κ → ι}
theorem look_cons (p : κ × D) (r : List (κ × D)) (k : κ) : look (p :: r) k = if p.1 = k then some p.2 else look r k := by
  unfold look
  rw [List.find?_cons]
  by_cases h : p.1 = k <;> simp [h]
theorem KvR.look (hi : ∀ a b, inj a = inj b → a = b) {k : κ} : ∀ {kvs : List (κ × D)} {kws : List (ι × V)}, KvR F H inj kvs kws →
    (Mn.look kvs k = none ∧ valV kws (inj k) = none) ∨ ∃ d v, Mn.look kvs k = some d ∧ valV kws (inj k) = some v ∧ Rp F H d v
  | _, _, .nil => .inl ⟨rfl, rfl⟩
  | p :: r, q :: t, .cons h rest => by
    rw [look_cons]
    by_cases e : p.1 = k
    · refine .inr ⟨p.2, q.2, by rw [if_pos e], valV_pos (by rw [h.1, e]), h.2⟩
    · have ne : ¬ q.1 = inj k := fun z => e (hi _ _ (by rw [← h.1, z]))
      rw [if_neg e, valV_neg ne]
      exact KvR.look hi rest
end
mutual
theorem flat_resC {m : Hm} : ∀ {n : Nat} {d : D}, D.flat n d = true → Res m d d ∧ D.shp n d = true
  | _, .non, _ => ⟨.non, by simp [D.shp]⟩
  | _, .bl b, _ => ⟨.bl b, by simp [D.shp]⟩
  | _, .int i, _ => ⟨.int i, by simp [D.shp]⟩
  | _, .str s, h => ⟨.str s, by simpa [D.shp, D.flat] using h⟩
  | n, .tup ds, h => by
    cases n with
    | zero => simp [D.flat] at h
    | succ k =>
      have h : D.flats k ds = true := by simpa [D.flat] using h
      obtain ⟨h1, h2⟩ := flats_resC (m := m) h
      exact ⟨.tup h1, by simpa [D.shp] using h2⟩
  | _, .lst _, h => by simp [D.flat] at h
  | _, .ref _, h => by simp [D.flat] at h
theorem flats_resC {m : Hm} : ∀ {n : Nat} {ds : List D}, D.flats n ds = true → Ress m ds ds ∧ D.shps n ds = true
  | _, [], _ => ⟨.nil, by simp [D.shps]⟩
  | n, d :: ds, h => by
    have h : D.flat n d = true ∧ D.flats n ds = true := by simpa [D.flats] using h
    obtain ⟨h1, h2⟩ := flat_resC (m := m) h.1
    obtain ⟨h3, h4⟩ := flats_resC (m := m) h.2
    exact ⟨.cons h1 h3, by simp [D.shps, h2, h4]⟩
end
theorem look_all {f : D → Bool} {k : Ky} {d : D} : ∀ {l : List (Ky × D)}, (l.all fun kv => f kv.2) = true → look l k = some d → f d = true
  | [], _, h => by simp [look] at h
  | p :: r, ha, h => by
    rw [List.all_cons, Bool.and_eq_true] at ha
    rw [look_cons] at h
    split at h
    · cases h; exact ha.1
    · exact look_all ha.2 h
theorem khit {L : Lk} {m : Hm} {H : Hp} (rel : Rel L m H) {k2 : List (Ky × D)} {ls : List (Key × V)} (f2 : (k2.all fun kv => D.flat 60 kv.2) = true) (r2 : KvR L.F H kyV k2 ls) :
    ∀ {k1 : List (Ky × D)} {ks : List (Key × V)}, (k1.all fun kv => D.flat 60 kv.2) = true → KvR L.F H kyV k1 ks → KHit L.F H ls ks (eqKs k2 k1)
  | _, _, _, .nil => .nil
  | (k, d) :: r, (kk, z) :: t, f1, .cons h rest => by
    rw [List.all_cons, Bool.and_eq_true] at f1
    obtain ⟨h1, h2⟩ := h
    have h1 : kk = kyV k := h1
    have h2 : Rp L.F H d z := h2
    subst h1
    have ih := khit rel f2 r2 f1.2 rest
    rcases r2.look (fun _ _ z => kyV_inj z) (k := k) with ⟨e1, e2⟩ | ⟨d2, z2, e1, e2, e3⟩
    · have e : eqKs k2 ((k, d) :: r) = false := by simp only [eqKs, e1]
      rw [e]
      exact .miss e2
    · have fd2 := look_all (f := fun d => D.flat 60 d) f2 e1
      obtain ⟨q1, s1⟩ := flat_resC (m := m) f1.1
      obtain ⟨q2, s2⟩ := flat_resC (m := m) fd2
      have e : eqKs k2 ((k, d) :: r) = (D.eqv d d2 && eqKs k2 r) := by simp only [eqKs, e1]
      rw [e, ← eqv_ok d d2 s1 s2]
      exact .hit e2 (q1.dp rel h2) (q2.dp rel e3) (shp_ok s1) (shp_ok s2) ih
section
variable {L : Lk} {m : Hm} {H : Hp} {P : PD} {Q : VK} {x y : D} {v u : V}
theorem Res.scal (h : scalD x = true) : Res m x x := by
  cases x with
  | non => exact .non
  | bl b => exact .bl b
  | int b => exact .int b
  | str b => exact .str b
  | _ => simp [scalD] at h
theorem natLt_lt : ∀ (s t : List Nat), natLt s t = decide (s < t)
  | [], [] => by simp [natLt]
  | _ :: _, [] => by simp [natLt]
  | [], _ :: _ => by simp [natLt]
  | x :: xs, y :: ys => by
    simp only [natLt, List.cons_lt_cons_iff, natLt_lt xs ys]
    by_cases e : x = y
    · subst e
      simp
    · rw [if_neg e]
      simp [e]
theorem eqv_scal (hx : scalD x = true) (hy : scalD y = true) (rx : Rp L.F H x v) (ry : Rp L.F H y u) : (scal v u = true ∧ decide (v = u) = D.eqv x y) ∨ (∃ d e, Dp L.F H v d ∧ Dp L.F H u e ∧ SeqAt.shaped d = true ∧ SeqAt.shaped e = true ∧ PyData.eqv d e = D.eqv x y) := by
  cases rx with
  | non => cases ry with
    | non => exact .inl ⟨rfl, by simp [D.eqv]⟩
    | bl b => exact .inl ⟨rfl, by simp [D.eqv]⟩
    | int b => exact .inl ⟨rfl, by simp [D.eqv]⟩
    | str b => exact .inl ⟨rfl, by simp [D.eqv]⟩
    | _ => simp [scalD] at hy
  | bl a => cases ry with
    | non => exact .inl ⟨rfl, by simp [D.eqv]⟩
    | bl b => exact .inl ⟨rfl, by simp [D.eqv]; rfl⟩
    | int b => exact .inr ⟨_, _, .bl a, .int b, by simp [SeqAt.shaped, PyData.canLay0, PyData.depth], by simp [SeqAt.shaped, PyData.canLay0, PyData.depth], by simp [D.eqv, PyData.eqv]⟩
    | str b => exact .inl ⟨rfl, by simp [D.eqv]⟩
    | _ => simp [scalD] at hy
  | int a => cases ry with
    | non => exact .inl ⟨rfl, by simp [D.eqv]⟩
    | bl b => exact .inr ⟨_, _, .int a, .bl b, by simp [SeqAt.shaped, PyData.canLay0, PyData.depth], by simp [SeqAt.shaped, PyData.canLay0, PyData.depth], by simp [D.eqv, PyData.eqv]⟩
    | int b => exact .inl ⟨rfl, by simp [D.eqv]; rfl⟩
    | str b => exact .inl ⟨rfl, by simp [D.eqv]⟩
    | _ => simp [scalD] at hy
  | str a => cases ry with
    | non => exact .inl ⟨rfl, by simp [D.eqv]⟩
    | bl b => exact .inl ⟨rfl, by simp [D.eqv]⟩
    | int b => exact .inl ⟨rfl, by simp [D.eqv]⟩
    | str b => exact .inl ⟨rfl, by simp only [D.eqv, ← toS_beq]; rw [dec_str]⟩
    | _ => simp [scalD] at hy
  | _ => simp [scalD] at hx
theorem eqk_ok {neg : Bool} (h : eqDk x y neg m P) (rx : Rp L.F H x v) (ry : Rp L.F H y u) (rel : Rel L m H) (q : Kt L H P Q) : rEqK L.F neg v u H Q := by
  unfold eqDk at h
  split at h
  · rename_i a b
    split at h
    · rename_i k1 k2 e1 e2
      obtain ⟨f1, f2, hp⟩ := h
      cases rx
      cases ry
      obtain ⟨ks, h1, r1⟩ := rel _ _ e1
      obtain ⟨ls, h2, r2⟩ := rel _ _ e2
      refine ⟨a, b, ks, ls, eqKs k2 k1, rfl, rfl, h1, h2, khit rel f2 r2 f1 r1, ?_⟩
      rw [show (ks.length == ls.length) = (k1.length == k2.length) by rw [← Paired.length r1, ← Paired.length r2]]
      exact q.here hp (.bl _) rel
    · exact h.elim
  · exact h.elim
theorem eq_ok (h : eqW x y false m P) (rx : Rp L.F H x v) (ry : Rp L.F H y u) (rel : Rel L m H) (q : Kt L H P Q) : cmpR L .eq v u H Q := by
  unfold eqW at h
  split at h
  · rename_i hs
    rw [Bool.and_eq_true] at hs
    have fin : Q (.bl (D.eqv x y)) H := q.here (by simpa using h) (.bl _) rel
    rcases eqv_scal hs.1 hs.2 rx ry with ⟨h1, h2⟩ | ⟨d, e, h1, h2, h3, h4, h5⟩
    · exact .inl ⟨h1, by rw [h2]; exact fin⟩
    · exact .inr (.inl ⟨d, e, h1, h2, h3, h4, by rw [h5]; exact fin⟩)
  · rcases h with ⟨x2, y2, r1, r2, s1, s2, hp⟩ | h
    · refine .inr (.inl ⟨_, _, r1.dp rel rx, r2.dp rel ry, shp_ok s1, shp_ok s2, ?_⟩)
      rw [eqv_ok _ _ s1 s2]
      exact q.here (by simpa using hp) (.bl _) rel
    · exact .inr (.inr (eqk_ok h rx ry rel q))
theorem ne_ok (h : eqW x y true m P) (rx : Rp L.F H x v) (ry : Rp L.F H y u) (rel : Rel L m H) (q : Kt L H P Q) : cmpR L .ne v u H Q := by
  unfold eqW at h
  split at h
  · rename_i hs
    rw [Bool.and_eq_true] at hs
    have fin : Q (.bl (!D.eqv x y)) H := q.here (by simpa using h) (.bl _) rel
    rcases eqv_scal hs.1 hs.2 rx ry with ⟨h1, h2⟩ | ⟨d, e, h1, h2, h3, h4, h5⟩
    · exact .inl ⟨h1, by rw [h2]; exact fin⟩
    · exact .inr (.inl ⟨d, e, h1, h2, h3, h4, by rw [h5]; exact fin⟩)
  · rcases h with ⟨x2, y2, r1, r2, s1, s2, hp⟩ | h
    · refine .inr (.inl ⟨_, _, r1.dp rel rx, r2.dp rel ry, shp_ok s1, shp_ok s2, ?_⟩)
      rw [eqv_ok _ _ s1 s2]
      exact q.here (by simpa using hp) (.bl _) rel
    · exact .inr (.inr (eqk_ok h rx ry rel q))
theorem ord_ok {op : Cop} (ho : op = .lt ∨ op = .le ∨ op = .gt ∨ op = .ge) (h : ordW op x y m P) (rx : Rp L.F H x v) (ry : Rp L.F H y u) (rel : Rel L m H) (q : Kt L H P Q) : cmpR L op v u H Q := by
  rcases ho with rfl | rfl | rfl | rfl
  all_goals
    cases rx with
    | int i => cases ry with
      | int j => exact .inl ⟨i, j, rfl, rfl, q.here h (.bl _) rel⟩
      | _ => exact h.elim
    | str s => cases ry with
      | str t => exact .inr (.inl ⟨_, _, rfl, rfl, by rw [toS_list, toS_list, ← natLt_lt]; exact q.here h (.bl _) rel⟩)
      | _ => exact h.elim
    | tup sq rs => cases ry with
      | tup sq2 rs2 =>
        obtain ⟨d, e, h1, h2, h3, h4, h5, h6, h7⟩ := ordT h.1 (.tup sq rs) (.tup sq2 rs2) rel
        refine .inr (.inr ⟨d, e, h1, h2, h3, h4, h5, ?_⟩)
        first
          | (show Q (.bl (PySem.W.dataLt d e)) H; rw [h6]; exact q.here h.2 (.bl _) rel)
          | (show Q (.bl (!PySem.W.dataLt e d)) H; rw [h7]; exact q.here h.2 (.bl _) rel)
          | (show Q (.bl (PySem.W.dataLt e d)) H; rw [h7]; exact q.here h.2 (.bl _) rel)
          | (show Q (.bl (!PySem.W.dataLt d e)) H; rw [h6]; exact q.here h.2 (.bl _) rel)
      | _ => exact h.elim
    | _ => cases ry <;> exact h.elim
theorem is_ok (h : isW x y false m P) (rx : Rp L.F H x v) (ry : Rp L.F H y u) (rel : Rel L m H) (q : Kt L H P Q) : cmpR L .is_ v u H Q := by
  cases ry with
  | non =>
    refine .inr (.inl ⟨rfl, ?_⟩)
    cases rx with
    | non => exact q.here (by simpa [isW] using h) (.bl _) rel
    | _ => exact q.here (d := .bl false) (by simpa [isW] using h) (.bl _) rel
  | bl b =>
    cases rx with
    | bl a =>
      refine .inl ⟨a, b, rfl, rfl, ?_⟩
      have e : decide (a = b) = (a == b) := by cases a <;> cases b <;> rfl
      rw [e]
      exact q.here (by simpa [isW] using h) (.bl _) rel
    | _ => exact h.elim
  | ref b =>
    cases rx with
    | ref a =>
      have h : (match m a, m b with
        | some (.lst _), some (.lst _) => P (.bl (xor false (a == b))) m
        | some (.ins _ _), some (.ins _ _) => P (.bl (xor false (a == b))) m
        | _, _ => False) := h
      refine .inr (.inr ?_)
      have e : (a == b) = decide (a = b) := by rw [Bool.eq_iff_iff]; simp
      split at h
      · rename_i xs ys ea eb
        obtain ⟨vs, ha, ra⟩ := rel _ _ ea
        obtain ⟨ws, hb, rb⟩ := rel _ _ eb
        exact ⟨a, b, _, _, rfl, rfl, ha, rfl, hb, rfl, q.here (by rw [← e]; exact h) (.bl _) rel⟩
      · rename_i ea eb
        obtain ⟨_, _, _, _, ha, ra⟩ := rel _ _ ea
        obtain ⟨_, _, _, _, hb, rb⟩ := rel _ _ eb
        exact ⟨a, b, _, _, rfl, rfl, ha, rfl, hb, rfl, q.here (by rw [← e]; exact h) (.bl _) rel⟩
      · exact h.elim
    | _ => exact h.elim
  | _ => cases rx <;> exact h.elim
theorem isn_ok (h : isW x y true m P) (rx : Rp L.F H x v) (ry : Rp L.F H y u) (rel : Rel L m H) (q : Kt L H P Q) : cmpR L .isn v u H Q := by
  cases ry with
  | non =>
    refine .inr (.inl ⟨rfl, ?_⟩)
    cases rx with
    | non => exact q.here (d := .bl false) (by simpa [isW] using h) (.bl _) rel
    | _ => exact q.here (d := .bl true) (by simpa [isW] using h) (.bl _) rel
  | bl b =>
    cases rx with
    | bl a =>
      refine .inl ⟨a, b, rfl, rfl, ?_⟩
      have e : (!decide (a = b)) = xor true (a == b) := by cases a <;> cases b <;> rfl
      rw [e]
      exact q.here h (.bl _) rel
    | _ => exact h.elim
  | ref b =>
    cases rx with
    | ref a =>
      have h : (match m a, m b with
        | some (.lst _), some (.lst _) => P (.bl (xor true (a == b))) m
        | some (.ins _ _), some (.ins _ _) => P (.bl (xor true (a == b))) m
        | _, _ => False) := h
      refine .inr (.inr ?_)
      have e : (a == b) = decide (a = b) := by rw [Bool.eq_iff_iff]; simp
      split at h
      · rename_i xs ys ea eb
        obtain ⟨vs, ha, ra⟩ := rel _ _ ea
        obtain ⟨ws, hb, rb⟩ := rel _ _ eb
        exact ⟨a, b, _, _, rfl, rfl, ha, rfl, hb, rfl, q.here (by rw [← e]; exact h) (.bl _) rel⟩
      · rename_i ea eb
        obtain ⟨_, _, _, _, ha, ra⟩ := rel _ _ ea
        obtain ⟨_, _, _, _, hb, rb⟩ := rel _ _ eb
        exact ⟨a, b, _, _, rfl, rfl, ha, rfl, hb, rfl, q.here (by rw [← e]; exact h) (.bl _) rel⟩
      · exact h.elim
    | _ => exact h.elim
  | _ => cases rx <;> exact h.elim
end
end Mn
end

section
set_option Elab.async false
set_option linter.all false
set_option maxRecDepth 100000
set_option maxHeartbeats 4000000
namespace Mn
open PySem PySem.Spec PyProof.Rows L2
section
variable {F : PySem.W.Frag} {H : Hp} {κ ι : Type} [DecidableEq κ] [DecidableEq ι] {inj : κ → ι}
theorem KvR.any (hi : ∀ a b, inj a = inj b → a = b) {k : κ} : ∀ {kvs : List (κ × D)} {kws : List (ι × V)}, KvR F H inj kvs kws →
    (kvs.any fun kv => decide (kv.1 = k)) = kws.any fun kv => decide (kv.1 = inj k)
  | _, _, .nil => rfl
  | p :: r, q :: t, .cons h rest => by
    rw [List.any_cons, List.any_cons, KvR.any hi rest, h.1]
    congr 1
    by_cases e : p.1 = k
    · simp [e]
    · have : ¬ inj p.1 = inj k := fun z => e (hi _ _ z)
      simp [e, this]
theorem KvR.snoc {k : κ} {d : D} {v : V} (rd : Rp F H d v) : ∀ {kvs : List (κ × D)} {kws : List (ι × V)}, KvR F H inj kvs kws → KvR F H inj (kvs ++ [(k, d)]) (kws ++ [(inj k, v)])
  | _, _, .nil => .cons ⟨rfl, rd⟩ .nil
  | p :: r, q :: t, .cons h rest => .cons h (KvR.snoc rd rest)
theorem KvR.mapk (hi : ∀ a b, inj a = inj b → a = b) {k : κ} {d : D} {v : V} (rd : Rp F H d v) : ∀ {kvs : List (κ × D)} {kws : List (ι × V)}, KvR F H inj kvs kws →
    KvR F H inj (kvs.map fun kv => if kv.1 = k then (kv.1, d) else kv) (kws.map fun kv => if kv.1 = inj k then (kv.1, v) else kv)
  | _, _, .nil => .nil
  | p :: r, q :: t, .cons h rest => by
    rw [List.map_cons, List.map_cons]
    refine .cons ?_ (KvR.mapk hi rd rest)
    by_cases e : p.1 = k
    · rw [if_pos e, if_pos (show q.1 = inj k by rw [h.1, e])]
      exact ⟨h.1, rd⟩
    · rw [if_neg e, if_neg (show ¬ q.1 = inj k from fun z => e (hi _ _ (by rw [← h.1, z])))]
      exact h
theorem KvR.put (hi : ∀ a b, inj a = inj b → a = b) {k : κ} {d : D} {v : V} (rd : Rp F H d v) {kvs : List (κ × D)} {kws : List (ι × V)} (r : KvR F H inj kvs kws) : KvR F H inj (putk kvs k d) (putK kws (inj k) v) := by
  unfold putk putK
  rw [r.any hi]
  split
  · exact r.mapk hi rd
  · exact r.snoc rd
theorem KvR.drop (hi : ∀ a b, inj a = inj b → a = b) {k : κ} : ∀ {kvs : List (κ × D)} {kws : List (ι × V)}, KvR F H inj kvs kws → KvR F H inj (dropk kvs k) (dropK kws (inj k))
  | _, _, .nil => .nil
  | p :: r, q :: t, .cons h rest => by
    have ih := KvR.drop hi (k := k) rest
    unfold dropk dropK at ih ⊢
    rw [List.filter_cons, List.filter_cons]
    by_cases e : p.1 = k
    · have e2 : q.1 = inj k := by rw [h.1, e]
      simp only [e, e2, ne_eq, not_true_eq_false, decide_false, Bool.false_eq_true, if_false]
      exact ih
    · have e2 : ¬ q.1 = inj k := fun z => e (hi _ _ (by rw [← h.1, z]))
      simp only [e, e2, ne_eq, not_false_eq_true, decide_true, if_true]
      exact .cons h ih
theorem KvR.len {kvs : List (κ × D)} {kws : List (ι × V)} (r : KvR F H inj kvs kws) : kvs.length = kws.length := Paired.length r
end
section
variable {L : Lk} {m : Hm} {H : Hp} {P : PD} {Q : VK} {x y : D} {v u : V} {a : Addr}
theorem ky_rp {k : Ky} (e : kyOf x = some k) (r : Rp L.F H x v) : v = kV (kyV k) := by
  cases r with
  | int i => cases e; rfl
  | str s => cases e; rfl
  | _ => cases e
/-- a key of a plain dict -/
theorem dget_ok {o : Option D} (h : dget m a x = some o) (rx : Rp L.F H x v) (rel : Rel L m H) : (∃ w, DGet H a v w ∧ ((o = none ∧ w = none) ∨ ∃ d z, o = some d ∧ w = some z ∧ Rp L.F H d z)) ∨
    ∃ ks kvs xs, x = .tup ks ∧ D.keyds 7 ks = true ∧ DtV L H a kvs xs ∧ o = look kvs ks := by
  unfold dget at h
  split at h
  · rename_i kvs i e
    obtain ⟨kws, hk, r⟩ := rel _ _ e
    cases rx
    cases h
    refine .inl ⟨_, .inl ⟨kws, Sum.inl i, .inl hk, rfl, rfl⟩, ?_⟩
    rcases r.look (fun _ _ z => kyV_inj z) (k := Sum.inl i) with ⟨e1, e2⟩ | ⟨d, z, e1, e2, e3⟩
    · exact .inl ⟨e1, e2⟩
    · exact .inr ⟨d, z, e1, e2, e3⟩
  · rename_i kvs s e
    obtain ⟨kws, hk, r⟩ := rel _ _ e
    cases rx
    cases h
    refine .inl ⟨_, .inl ⟨kws, Sum.inr (toS s), .inl hk, rfl, rfl⟩, ?_⟩
    rcases r.look (fun _ _ z => kyV_inj z) (k := Sum.inr s) with ⟨e1, e2⟩ | ⟨d, z, e1, e2, e3⟩
    · exact .inl ⟨e1, e2⟩
    · exact .inr ⟨d, z, e1, e2, e3⟩
  · rename_i ks e
    split at h
    · rename_i hs
      cases h
      obtain ⟨kws, hk, r⟩ := rel _ _ e
      cases r
      exact .inr ⟨ks, [], [], rfl, hs, .inr ⟨hk, rfl, rfl⟩, rfl⟩
    · cases h
  · rename_i kvs ks e
    split at h
    · rename_i hs
      cases h
      obtain ⟨xs, hx, r⟩ := rel _ _ e
      exact .inr ⟨ks, kvs, xs, rfl, hs, .inl ⟨hx, r⟩, rfl⟩
    · cases h
  · rename_i kvs i e
    obtain ⟨od, kws, hk, r⟩ := rel _ _ e
    cases rx
    cases h
    refine .inl ⟨_, .inl ⟨kws, Sum.inl i, .inr ⟨od, hk⟩, rfl, rfl⟩, ?_⟩
    rcases r.look (fun _ _ z => kyV_inj z) (k := Sum.inl i) with ⟨e1, e2⟩ | ⟨d, z, e1, e2, e3⟩
    · exact .inl ⟨e1, e2⟩
    · exact .inr ⟨d, z, e1, e2, e3⟩
  · rename_i kvs s e
    obtain ⟨od, kws, hk, r⟩ := rel _ _ e
    cases rx
    cases h
    refine .inl ⟨_, .inl ⟨kws, Sum.inr (toS s), .inr ⟨od, hk⟩, rfl, rfl⟩, ?_⟩
    rcases r.look (fun _ _ z => kyV_inj z) (k := Sum.inr s) with ⟨e1, e2⟩ | ⟨d, z, e1, e2, e3⟩
    · exact .inl ⟨e1, e2⟩
    · exact .inr ⟨d, z, e1, e2, e3⟩
  · cases h
theorem dput_ok {ob : MO} (h : dput m a x y = some ob) (rx : Rp L.F H x v) (ry : Rp L.F H y u) (rel : Rel L m H) : (∃ H2, DPut H a v u H2 ∧ Rel L (up m a ob) H2 ∧ Kp H H2) ∨
    ∃ ks kvs xs, x = .tup ks ∧ D.keyds 7 ks = true ∧ DtV L H a kvs xs ∧ xs.length < sizeLine ∧ ob = .dT (putk kvs ks y) := by
  unfold dput at h
  split at h
  · rename_i kvs i e
    obtain ⟨kws, hk, r⟩ := rel _ _ e
    cases rx
    split at h
    · rename_i hz
      cases h
      have k := Kp.over (o := HO.dK (putK kws (Sum.inl i) u)) hk trivial
      exact .inl ⟨_, .inl ⟨kws, Sum.inl i, hk, rfl, by rw [← r.len]; exact SZ_lt hz, rfl⟩, rel.put k ⟨_, upd_same, ((KvR.put (fun _ _ z => kyV_inj z) (k := Sum.inl i) ry r).mono k)⟩, k⟩
    · cases h
  · rename_i kvs s e
    obtain ⟨kws, hk, r⟩ := rel _ _ e
    cases rx
    split at h
    · rename_i hz
      cases h
      have k := Kp.over (o := HO.dK (putK kws (Sum.inr (toS s)) u)) hk trivial
      exact .inl ⟨_, .inl ⟨kws, Sum.inr (toS s), hk, rfl, by rw [← r.len]; exact SZ_lt hz, rfl⟩, rel.put k ⟨_, upd_same, ((KvR.put (fun _ _ z => kyV_inj z) (k := Sum.inr s) ry r).mono k)⟩, k⟩
    · cases h
  · rename_i ks e
    split at h
    · rename_i hs
      cases h
      obtain ⟨kws, hk, r⟩ := rel _ _ e
      cases r
      exact .inr ⟨ks, [], [], rfl, hs, .inr ⟨hk, rfl, rfl⟩, by rw [sizeLine_eq]; decide, rfl⟩
    · cases h
  · rename_i kvs ks e
    split at h
    · rename_i hs
      cases h
      obtain ⟨xs, hx, r⟩ := rel _ _ e
      exact .inr ⟨ks, kvs, xs, rfl, hs.1, .inl ⟨hx, r⟩, by rw [← r.len]; exact SZ_lt hs.2, rfl⟩
    · cases h
  · cases h
theorem flat_rp (h : scalD x = true) (r : Rp L.F H x v) : flatV v = true := by
  cases r <;> first | rfl | simp [scalD] at h
theorem flats_rp : ∀ {ds : List D} {vs : List V}, ds.all scalD = true → Rps L.F H ds vs → vs.all flatV = true
  | _, _, _, .nil => rfl
  | _, _, h, .cons a b => by
    rw [List.all_cons, Bool.and_eq_true] at h ⊢
    exact ⟨flat_rp h.1 a, flats_rp h.2 b⟩
theorem eqV_rp (hx : scalD x = true) (hy : scalD y = true) (rx : Rp L.F H x v) (ry : Rp L.F H y u) : eqV v u = D.eqv x y := by
  cases rx with
  | str a => cases ry with
    | str b => simp only [eqV, D.eqv, toS_beq]
    | _ => first | rfl | simp [scalD] at hy
  | _ => cases ry <;> first | rfl | simp [scalD] at hy | simp [scalD] at hx
theorem anyV_rp (hx : scalD x = true) (rx : Rp L.F H x v) : ∀ {ds : List D} {vs : List V}, ds.all scalD = true → Rps L.F H ds vs → (vs.any fun z => eqV z v) = ds.any fun z => D.eqv z x
  | _, _, _, .nil => rfl
  | _, _, h, .cons a b => by
    rw [List.all_cons, Bool.and_eq_true] at h
    rw [List.any_cons, List.any_cons, eqV_rp h.1 hx a rx, anyV_rp hx rx h.2 b]
theorem in_ok {neg : Bool} (h : inW x y neg m P) (rx : Rp L.F H x v) (ry : Rp L.F H y u) (rel : Rel L m H) (q : Kt L H P Q) : cmpR L (if neg then .nin else .in_) v u H Q := by
  have kit : cmpR0 L.F (if neg then .nin else .in_) v u H Q → cmpR L (if neg then .nin else .in_) v u H Q := by cases neg <;> exact .inl
  have dic : ∀ {a : Addr} {o : Option D}, u = .ref a → dget m a x = some o → P (.bl (xor neg o.isSome)) m → cmpR L (if neg then .nin else .in_) v u H Q := by
    intro a o eu ho hp
    subst eu
    rcases dget_ok ho rx rel with ⟨w, hg, hw⟩ | ⟨ks, kvs, xs, e1, e2, e3, e4⟩
    · have e : w.isSome = o.isSome := by
        rcases hw with ⟨e1, e2⟩ | ⟨d, z, e1, e2, _⟩ <;> rw [e1, e2] <;> rfl
      cases neg with
      | false => exact .inl (.inr (.inr (.inr (.inl ⟨a, w, rfl, hg, by rw [e]; exact q.here hp (.bl _) rel⟩))))
      | true => exact .inl (.inr (.inr (.inr (.inl ⟨a, w, rfl, hg, by rw [e]; exact q.here hp (.bl _) rel⟩))))
    · subst e1 e4
      cases neg with
      | false => exact .inr ⟨a, kvs, xs, ks, rfl, e3, rx, e2, q.here hp (.bl _) rel⟩
      | true => exact .inr ⟨a, kvs, xs, ks, rfl, e3, rx, e2, q.here hp (.bl _) rel⟩
  cases ry with
  | @tup ds a vs sq rs =>
    obtain ⟨h1, h2⟩ := h
    rw [Bool.or_eq_true] at h1
    rcases h1 with h1 | h1
    · rw [Bool.and_eq_true] at h1
      have e : inV v vs = ds.any fun z => D.eqv z x := anyV_rp h1.1 rx h1.2 rs
      refine kit ?_
      cases neg with
      | false => exact .inl ⟨a, vs, rfl, .inr sq.sq, flat_rp h1.1 rx, flats_rp h1.2 rs, by rw [if_neg Bool.false_ne_true, e]; exact q.here (by simpa using h2) (.bl _) rel⟩
      | true => exact .inl ⟨a, vs, rfl, .inr sq.sq, flat_rp h1.1 rx, flats_rp h1.2 rs, by rw [if_pos rfl, e]; exact q.here (by simpa using h2) (.bl _) rel⟩
    · rw [Bool.and_eq_true] at h1
      have s1 := flat_shp h1.1
      have s2 := flats_shp h1.2
      have up : ∀ {n : Nat} {d : D}, n ≤ 60 → D.shp n d = true → SeqAt.shaped (toP d) = true := by
        intro n d hn hd
        have l1 := shp_lay hd
        have l2 := shp_dep hd
        unfold SeqAt.shaped
        rw [l1, Bool.true_and, decide_eq_true_eq]
        omega
      have a2 := up (n := 59) (by decide) (show D.shp 59 (.tup ds) = true by simpa only [D.shp] using s2)
      have key : ((toPs ds).any fun z => PyData.eqv z (toP x)) = ds.any fun z => D.eqv z x := by
        clear h2 rs rx sq a2
        induction ds with
        | nil => rfl
        | cons d ds ih =>
          have h3 : D.flat 58 d = true ∧ D.flats 58 ds = true := by simpa [D.flats] using h1.2
          simp only [toPs, List.any_cons]
          rw [eqv_ok d x (flat_shp h3.1) s1, ih ⟨h1.1, h3.2⟩ (flats_shp h3.2)]
      refine kit ?_
      have d1 := (flat_self (m := m) h1.1).dp rel rx
      have d2 := (Res.tup (flats_self (m := m) h1.2)).dp rel (.tup sq rs)
      cases neg with
      | false => exact .inr (.inr (.inr (.inr ⟨toP x, toPs ds, d1, d2, up (by decide) s1, a2, by rw [key]; exact q.here (by simpa using h2) (.bl _) rel⟩)))
      | true => exact .inr (.inr (.inr (.inr ⟨toP x, toPs ds, d1, d2, up (by decide) s1, a2, by rw [key]; exact q.here (by simpa using h2) (.bl _) rel⟩)))
  | str t =>
    cases rx with
    | str s =>
      cases s with
      | nil => exact h.elim
      | cons c r => cases r with
        | cons _ _ => exact h.elim
        | nil =>
          have e : decide (c ∈ (toS t).cps.toList) = t.contains c := by rw [toS_list, Bool.eq_iff_iff]; simp
          refine kit ?_
          cases neg with
          | false => exact .inr (.inl ⟨c, _, rfl, rfl, by rw [e]; exact q.here (by simpa [inW] using h) (.bl _) rel⟩)
          | true => exact .inr (.inl ⟨c, _, rfl, rfl, by rw [e]; exact q.here (by simpa [inW] using h) (.bl _) rel⟩)
    | _ => exact h.elim
  | ref a =>
    unfold inW at h
    simp only at h
    split at h
    · rename_i ds e
      obtain ⟨x2, ds2, r1, r2, s1, s2, hp⟩ := h
      obtain ⟨vs, hv, rv⟩ := rel _ _ e
      have dp := r2.dp rel rv
      have fin : ∀ b, b = (ds2.any fun z => D.eqv z x2) → ((toPs ds2).any fun z => PyData.eqv z (toP x2)) = b := fun b hb => by rw [any_ok s1 s2, hb]
      refine kit ?_
      cases neg with
      | false => exact .inr (.inr (.inl ⟨_, _, r1.dp rel rx, .lst (SqL.of hv) dp, shp_ok s1, shps_ok s2, by rw [any_ok s1 s2]; exact q.here (by simpa using hp) (.bl _) rel⟩))
      | true => exact .inr (.inr (.inl ⟨_, _, r1.dp rel rx, .lst (SqL.of hv) dp, shp_ok s1, shps_ok s2, by rw [any_ok s1 s2]; exact q.here (by simpa using hp) (.bl _) rel⟩))
    · obtain ⟨o, ho, hp⟩ := h
      exact dic rfl ho hp
    · obtain ⟨o, ho, hp⟩ := h
      exact dic rfl ho hp
    · obtain ⟨o, ho, hp⟩ := h
      exact dic rfl ho hp
    · exact h.elim
  | _ => exact h.elim
theorem cmp_ok {op : Cop} (h : cmpW op x y m P) (rx : Rp L.F H x v) (ry : Rp L.F H y u) (rel : Rel L m H) (q : Kt L H P Q) : cmpR L op v u H Q := by
  cases op with
  | eq => exact eq_ok h rx ry rel q
  | ne => exact ne_ok h rx ry rel q
  | is_ => exact is_ok h rx ry rel q
  | isn => exact isn_ok h rx ry rel q
  | in_ => exact in_ok (neg := false) h rx ry rel q
  | nin => exact in_ok (neg := true) h rx ry rel q
  | lt => exact ord_ok (.inl rfl) h rx ry rel q
  | le => exact ord_ok (.inr (.inl rfl)) h rx ry rel q
  | gt => exact ord_ok (.inr (.inr (.inl rfl))) h rx ry rel q
  | ge => exact ord_ok (.inr (.inr (.inr rfl))) h rx ry rel q
end
def rIxD : R2 := fun x y H Q => ∃ a v, x = .ref a ∧ DGet H a y (some v) ∧ Q v H
theorem ix_dict {X : Cx} (hu : X.A.units + 1 < cLine) : IxR X rIxD := by
  intro value slice pins s σ H x y v u Q I rx ry h hs
  obtain ⟨a, w, rfl, g, q⟩ := h
  obtain rfl : v = Value.ref a := rx
  exact tail_any (dict_typeIs I g) PySem.F.slot_dict_getitem.lookup (d_getItem hu I g ry fun w2 s2 I2 r2 => ⟨w, H, I2, r2, q⟩) hs
def rIxT (L : Lk) : R2 := fun x y H Q => ∃ a kvs xs ks v, x = .ref a ∧ DtV L H a kvs xs ∧ Rp L.F H (.tup ks) y ∧ D.keyds 7 ks = true ∧ getX xs (nkT ks) = some v ∧ Q v H
theorem ix_dT {X : Cx} {L : Lk} (hk : X.K = L.F) (hw : X.w = L.w) (hu : X.A.units + 65 < cLine) : IxR X (rIxT L) := by
  intro value slice pins s σ H x y v u Q I rx ry h hs
  obtain ⟨a, kvs, xs, ks, w, rfl, D, rk, hk2, g, q⟩ := h
  obtain rfl : v = Value.ref a := rx
  obtain ⟨b, rfl⟩ := rk.tup_ref
  obtain rfl : u = Value.ref b := ry
  have N := D.now hk hw I
  obtain ⟨ys, _, dd⟩ := N.d
  exact tail_any (show s.TypeIs (.ref a) "dict" from dd.typeIs) PySem.F.slot_dict_getitem.lookup (dt_getItem (by omega) I N (keyT_is hk I hk2 rk) g fun w2 s2 I2 r2 => ⟨w, H, I2, r2, q⟩) hs
/-- .. while it is walked -/
def rIxZ (L : Lk) : R2 := fun x y H Q => ∃ a od kvs xs ks v, x = .ref a ∧ H a = some (.frz od (DtO L.w a xs)) ∧ DtF a xs ∧ DtR L.F H kvs xs ∧ Rp L.F H (.tup ks) y ∧ D.keyds 7 ks = true ∧ getX xs (nkT ks) = some v ∧ Q v H
theorem ix_dZ {X : Cx} {L : Lk} (hk : X.K = L.F) (hw : X.w = L.w) (hu : X.A.units + 65 < cLine) : IxR X (rIxZ L) := by
  intro value slice pins s σ H x y v u Q I rx ry h hs
  obtain ⟨a, od, kvs, xs, ks, w, rfl, ha, f, r0, rk, hk2, g, q⟩ := h
  have ev : v = Value.ref a := rx
  subst ev
  obtain ⟨b, rfl⟩ := rk.tup_ref
  have eu : u = Value.ref b := ry
  subst eu
  rw [← hw] at ha
  obtain ⟨t1, t2⟩ := dz_getItem (A := X.A) (E := X.xe) (by omega) I ha f.nd (keysIn_of hk I r0) (keyT_is hk I hk2 rk) g fun w2 s2 I2 r2 => (show EP X pins σ Q w2 s2 from ⟨w, H, I2, r2, q⟩)
  exact tail_any t1 PySem.F.slot_dict_getitem.lookup t2 hs
def ixR (L : Lk) : R2 := fun x y H Q => rIx L.F x y H Q ∨ rIxD x y H Q ∨ rIxT L x y H Q ∨ rIxZ L x y H Q
theorem ixS {X : Cx} {L : Lk} (hk : X.K = L.F) (hw : X.w = L.w) (hu : X.A.units + 65 < cLine) : IxR X (ixR L) := by
  have h := ix_seq (X := X)
  rw [hk] at h
  exact h.or ((ix_dict (by omega)).or ((ix_dT hk hw hu).or (ix_dZ hk hw hu)))
section
variable {L : Lk} {m : Hm} {H : Hp} {P : PD} {Q : VK} {x y : D} {v u : V} {a : Addr}
theorem atI_rps {ds : List D} {vs : List V} {i : Int} {d : D} (r : Rps L.F H ds vs) (h : Mn.atI ds i = some d) : ∃ w, L2.atI vs i = some w ∧ Rp L.F H d w := by
  unfold Mn.atI at h
  unfold L2.atI
  rw [← r.length]
  cases e : Mn.ixN ds.length i with
  | none => rw [e] at h; cases h
  | some j =>
    rw [e] at h
    obtain ⟨w, h1, h2⟩ := r.get (i := j) (d := d) h
    exact ⟨w, by rw [show L2.ixN ds.length i = some j from e]; exact h1, h2⟩
theorem ix_ok (h : ixW x y m P) (rx : Rp L.F H x v) (ry : Rp L.F H y u) (rel : Rel L m H) (q : Kt L H P Q) : ixR L v u H Q := by
  cases rx with
  | @tup ds a vs sq rs => cases ry with
    | int i =>
      obtain ⟨d, hd, hp⟩ := h
      obtain ⟨w, h1, h2⟩ := atI_rps rs hd
      exact .inl (.inr (.inl ⟨a, vs, i, w, rfl, rfl, sq.sq, h1, q.here hp h2 rel⟩))
    | _ => exact h.elim
  | @lst ds a vs sq rs => cases ry with
    | int i =>
      obtain ⟨d, hd, hp⟩ := h
      obtain ⟨w, h1, h2⟩ := atI_rps rs hd
      exact .inl (.inl ⟨a, vs, i, w, rfl, rfl, sq.sq, h1, q.here hp h2 rel⟩)
    | _ => exact h.elim
  | str s => cases ry with
    | int i =>
      obtain ⟨hz, c, hc, hp⟩ := h
      exact .inl (.inr (.inr ⟨toS s, i, c, rfl, rfl, by rw [toS_len]; exact SZ_line hz, by rw [toS_list]; exact hc, q.here hp (.str [c]) rel⟩))
    | _ => exact h.elim
  | ref a =>
    have dic : ∀ {d : D}, dget m a y = some (some d) → P d m → ixR L (.ref a) u H Q := fun {d} hg hp => by
      rcases dget_ok hg ry rel with ⟨w, h1, h2⟩ | ⟨ks, kvs, xs, e1, e2, e3, e4⟩
      · rcases h2 with ⟨e1, _⟩ | ⟨d2, z, e1, e2, e3⟩
        · cases e1
        · cases e1
          subst e2
          exact .inr (.inl ⟨a, z, rfl, h1, q.here hp e3 rel⟩)
      · subst e1
        rcases lookT e2 e3.r with ⟨g1, _⟩ | ⟨d2, z, g1, g2, g3⟩
        · rw [g1] at e4; cases e4
        · rw [g1] at e4
          cases e4
          exact .inr (.inr (.inl ⟨a, kvs, xs, ks, z, rfl, e3, ry, e2, g2, q.here hp g3 rel⟩))
    cases y with
    | tup ks =>
      obtain ⟨d, hg | hg, hp⟩ := h
      · exact dic hg hp
      · unfold zget at hg
        split at hg
        · rename_i kvs e
          split at hg
          · rename_i hs
            obtain ⟨od, xs, hx, f, r0⟩ := rel _ _ e
            rcases lookT hs r0 with ⟨g1, _⟩ | ⟨d2, z, g1, g2, g3⟩
            · rw [g1] at hg; cases hg
            · rw [g1] at hg
              cases hg
              exact .inr (.inr (.inr ⟨a, od, kvs, xs, ks, z, rfl, hx, f, r0, ry, hs, g2, q.here hp g3 rel⟩))
          · cases hg
        · cases hg
    | int i =>
      unfold ixW at h
      simp only at h
      split at h
      · rename_i xs e
        obtain ⟨d, hd, hp⟩ := h
        obtain ⟨vs, hv, rs⟩ := rel _ _ e
        obtain ⟨w, h1, h2⟩ := atI_rps rs hd
        cases ry
        exact .inl (.inl ⟨a, vs, i, w, rfl, rfl, SqL.of hv, h1, q.here hp h2 rel⟩)
      · rename_i kvs e
        obtain ⟨d, hd, hp⟩ := h
        exact dic (d := d) (by unfold dget; rw [e]; simp only [hd]) hp
      · rename_i kvs e
        obtain ⟨d, hd, hp⟩ := h
        exact dic (d := d) (by unfold dget; rw [e]; simp only [hd]) hp
      · exact h.elim
    | _ => obtain ⟨d, hg, hp⟩ := h; exact dic hg hp
  | _ => exact h.elim
def slR (F : PySem.W.Frag) : V → Option Int → Option Int → Hp → VK → Prop := fun x lo hi H Q => rSlZ F x lo hi H Q ∨ rSlL F x lo hi H Q ∨ rSlS x lo hi H Q
theorem slS {X : Cx} : SlR X (slR X.K) := sl_tupZ.or (sl_list.or sl_str)
theorem cut_rps {ds : List D} {vs : List V} (r : Rps L.F H ds vs) (lo hi : Option Int) : Rps L.F H (cut ds lo hi) (cutV vs lo hi) := by
  unfold cut cutV
  rw [r.length]
  exact (r.drop _).take _
theorem cut_whole {α : Type} {ds : List α} {lo hi : Option Int} (h : sIx ds.length 0 lo = 0 ∧ sIx ds.length ds.length hi = ds.length) : cut ds lo hi = ds := by
  unfold cut
  rw [h.1, h.2]
  simp
theorem sl_ok {lo hi : Option Int} (h : slW x lo hi m P) (rx : Rp L.F H x v) (rel : Rel L m H) (q : Kt L H P Q) : slR L.F v lo hi H Q := by
  cases rx with
  | @tup ds a vs sq rs =>
    refine .inl ⟨a, vs, rfl, sq.sq, fun e => ?_, fun _ => q.tup h (cut_rps rs lo hi) rel⟩
    rw [← rs.length] at e
    have h2 : P (.tup (cut ds lo hi)) m := h
    rw [cut_whole e] at h2
    exact q.here h2 (.tup sq rs) rel
  | @lst ds a vs sq rs => exact .inr (.inl ⟨a, vs, rfl, sq.sq, fun p hp => q.lst h (cut_rps rs lo hi) rel hp⟩)
  | str s =>
    refine .inr (.inr ⟨_, rfl, by rw [toS_len]; exact SZ_line h.1, ?_⟩)
    have e : cutS (toS s) lo hi = toS (cut s lo hi) := by
      unfold cutS cut
      rw [toS_list, toS_len]
      rfl
    rw [e]
    exact q.here h.2 (.str _) rel
  | ref a =>
    unfold slW at h
    simp only at h
    split at h
    · rename_i xs e
      unfold getL at e
      split at e
      · rename_i ys e2
        cases e
        obtain ⟨vs, hv, rs⟩ := rel _ _ e2
        exact .inr (.inl ⟨a, vs, rfl, SqL.of hv, fun p hp => q.lst h (cut_rps rs lo hi) rel hp⟩)
      · cases e
    · exact h.elim
  | _ => exact h.elim
theorem isEmpty_rps {ds : List D} {vs : List V} (r : Rps L.F H ds vs) : (!vs.isEmpty) = !ds.isEmpty := by cases r <;> rfl
theorem truth_ok {b : Bool} (h : truth m x = some b) (rx : Rp L.F H x v) (rel : Rel L m H) : TruV L.F v H b := by
  cases rx with
  | non => cases h; rfl
  | bl c => cases h; rfl
  | int i => cases h; rfl
  | str s =>
    simp only [truth] at h
    split at h
    · rename_i hz
      cases h
      refine ⟨by rw [toS_len]; exact SZ_line hz, ?_⟩
      rw [toS_len]
      cases s with
      | nil => rfl
      | cons c t =>
        have e : (((c :: t).length : Int) != 0) = true := by simp only [List.length_cons, bne_iff_ne, ne_eq]; omega
        rw [e]; rfl
    · cases h
  | @tup ds a vs sq rs => cases h; exact .inr (.inl ⟨vs, sq.sq, (isEmpty_rps rs).symm⟩)
  | @lst ds a vs sq rs => cases h; exact .inl ⟨vs, sq.sq, (isEmpty_rps rs).symm⟩
  | ref a =>
    simp only [truth] at h
    split at h
    · rename_i xs e
      cases h
      obtain ⟨vs, hv, rs⟩ := rel _ _ e
      exact .inl ⟨vs, SqL.of hv, (isEmpty_rps rs).symm⟩
    · rename_i xs e
      cases h
      obtain ⟨vs, hv, rs⟩ := rel _ _ e
      exact .inr (.inr ⟨vs, hv, by cases rs <;> rfl⟩)
    · cases h
  | exc a c => cases h
end
end Mn
end

section
set_option Elab.async false
set_option linter.all false
set_option maxRecDepth 100000
set_option maxHeartbeats 4000000
namespace Mn
open PySem PySem.Spec PyProof.Rows L2
def bfV : Bf → Value
  | .len => .builtin "len" | .abs => .builtin "abs" | .int => .type "int" | .str => .type "str" | .ord => .builtin "ord" | .min => .builtin "min" | .max => .builtin "max"
  | .sum => .builtin "sum" | .all => .builtin "all" | .any => .builtin "any" | .sorted => .builtin "sorted" | .list => .type "list" | .tuple => .type "tuple" | .dict => .type "dict" | .set => .type "set"
theorem bf_boot (f : Bf) : bootBuiltins (bfN f) = some (bfV f) := by cases f <;> decide +kernel
theorem bf_name (f : Bf) : bfN f ≠ "__name__" ∧ (bfN f == ("__debug__" : Str)) = false := by cases f <;> decide +kernel
abbrev RC := List V → Hp → VK → Prop
def rNo : RC := fun _ _ _ => False
def bfR0 (F : PySem.W.Frag) : Bf → RC
  | .len => fun xs H Q => (∃ x n, xs = [x] ∧ LenV F x H n ∧ Q (.int n) H) ∨ ∃ a kvs, xs = [V.ref a] ∧ H a = some (.dK kvs) ∧ Q (.int kvs.length) H
  | .abs => fun xs H Q => ∃ i, xs = [.int i] ∧ Q (.int (if i < 0 then -i else i)) H
  | .int => fun xs H Q => ((∃ i, xs = [.int i] ∧ Q (.int i) H) ∨ ∃ k, xs = [.bl k] ∧ Q (.int (if k then 1 else 0)) H) ∨ ∃ (a : Str) (n : Int), xs = [.str a] ∧ PySem.intText? a = some n ∧ a.length ≤ 640 ∧ Q (.int n) H
  | .str => fun xs H Q => (∃ i, xs = [.int i] ∧ i.natAbs.log2 < 1920 ∧ Q (.str (toString i)) H) ∨ ∃ k : Bool, xs = [.bl k] ∧ Q (.str (if k then "True" else "False")) H
  | .ord => fun xs H Q => ∃ x, xs = [.str x] ∧ x.length = 1 ∧ Q (.int (x.cps.getD 0 0 : Nat)) H
  | .min => fun xs H Q => (∃ i j, xs = [.int i, .int j] ∧ Q (.int (if j < i then j else i)) H) ∨ rMin F xs H Q ∨ rMinT F xs H Q
  | .max => fun xs H Q => (∃ i j, xs = [.int i, .int j] ∧ Q (.int (if j > i then j else i)) H) ∨ rMax F xs H Q ∨ rMaxT F xs H Q
  | .sum => fun xs H Q => rSum F xs H Q ∨ rSumT F xs H Q
  | .all => rAll F
  | .any => rAny F
  | .sorted => rSortedI F
  | .list => fun xs H Q => (∃ p ys, xs = [.ref p] ∧ (SqL F H p ys ∨ SqT F H p ys) ∧ ∀ l, H l = none → Q (.ref l) (upd H l (.lst ys))) ∨ rListD xs H Q
  | .tuple => fun xs H Q => ∃ p ys, xs = [.ref p] ∧ ((SqL F H p ys ∧ NewT H ys Q) ∨ (SqT F H p ys ∧ Q (.ref p) H))
  | .dict => fun xs H Q => (∃ (a : Addr) (ps : List Addr) (kvs : List (Key × V)), xs = [.ref a] ∧ SqL F H a (ps.map V.ref) ∧ Paired (fun p kv => SqT F H p [kV kv.1, kv.2]) ps kvs ∧ ∀ p, H p = none → Q (.ref p) (upd H p (.dK (mergeK [] kvs)))) ∨
    (∃ (a : Addr) (kvs : List (Key × V)), xs = [.ref a] ∧ Rd H a (.dK kvs) ∧ ∀ p, H p = none → Q (.ref p) (upd H p (.dK kvs))) ∨
    ∃ (a : Addr) (ps : List Addr) (kvs : List (Key × V)), xs = [.ref a] ∧ Solid F H a (ps.map V.ref) ∧ Paired (fun p kv => SqT F H p [kV kv.1, kv.2]) ps kvs ∧ ∀ p, H p = none → Q (.ref p) (upd H p (.dK (mergeK [] kvs)))
  | .set => rNo
theorem no_call {X : Cx} {f : Value} : CallR X f rNo := fun _ _ _ _ _ _ _ _ _ h => False.elim h
theorem call_str_bool {X : Cx} : CallR X (.type "str") (fun xs H Q => ∃ k : Bool, xs = [.bl k] ∧ Q (.str (if k then "True" else "False")) H) := by
  intro pins s σ H xs us Q I r h
  obtain ⟨k, rfl, q⟩ := h
  obtain ⟨u, rfl, r1⟩ := vals1 r
  cases r1
  exact PySem.P.str_of_bool ⟨.str _, H, I.tok _, ⟨_, rfl⟩, q⟩
theorem boolT_ok (k : Bool) : (if k then "True" else "False" : Str) = toS (boolT k) := by cases k <;> decide +kernel
theorem num_ok1 : ∀ a : Fin 10, PySem.intText? (toS [48 + a.1]) = some ((a.1 : Nat) : Int) := by decide +kernel
theorem num_ok2 : ∀ a b : Fin 10, PySem.intText? (toS [48 + a.1, 48 + b.1]) = some ((10 * a.1 + b.1 : Nat) : Int) := by decide +kernel
theorem numT_ok {s : List Nat} {n : Int} (h : numT s = some n) : PySem.intText? (toS s) = some n ∧ s.length ≤ 2 := by
  unfold numT at h
  split at h
  · rename_i a
    split at h
    · rename_i ha
      simp only [digB, Bool.and_eq_true, decide_eq_true_eq] at ha
      cases h
      have := num_ok1 ⟨a - 48, by omega⟩
      simp only at this
      rw [show 48 + (a - 48) = a by omega] at this
      exact ⟨this, by simp⟩
    · cases h
  · rename_i a b
    split at h
    · rename_i ha
      simp only [digB, Bool.and_eq_true, decide_eq_true_eq] at ha
      cases h
      have := num_ok2 ⟨a - 48, by omega⟩ ⟨b - 48, by omega⟩
      simp only at this
      rw [show 48 + (a - 48) = a by omega, show 48 + (b - 48) = b by omega] at this
      exact ⟨this, by simp⟩
    · cases h
  · cases h
theorem bfS0 {X : Cx} (hc : X.calm = true) : ∀ f : Bf, CallR X (bfV f) (bfR0 X.K f)
  | .len => call_len.or call_lenD
  | .abs => call_abs
  | .int => call_int1.or call_int_str
  | .str => call_str_int.or call_str_bool
  | .ord => call_ord
  | .min => (call_min2 hc).or ((cr_min hc).or (cr_minT hc))
  | .max => (call_max2 hc).or ((cr_max hc).or (cr_maxT hc))
  | .sum => (cr_sum hc).or (cr_sumT hc)
  | .all => cr_all hc
  | .any => cr_any hc
  | .sorted => cr_sortedI
  | .list => call_list_of.or (call_list_dK hc)
  | .tuple => call_tupleZ
  | .dict => (call_dictP hc).or (call_dictD.or (call_dictZ hc))
  | .set => no_call
def rSortU2 (L : Lk) : RC := fun us H Q => ∃ (a : Addr) (xs : List V) (ds : List D), us = [V.ref a] ∧ SqL L.F H a xs ∧ Rps L.F H ds xs ∧ sortable ds = true ∧ ∀ p ys, H p = none → Rps L.F H (ds.mergeSort leD) ys → Q (.ref p) (upd H p (.lst ys))
def bfT (L : Lk) : Bf → RC
  | .len => fun us H Q => ∃ a kvs xs, us = [V.ref a] ∧ DtV L H a kvs xs ∧ Q (.int xs.length) H
  | .list => fun us H Q => ∃ a xs, us = [V.ref a] ∧ DtAt L.w H a xs ∧ ∀ p, H p = none → Q (.ref p) (upd H p (.lst (xs.map fun x => V.ref x.2.1)))
  | .dict => fun us H Q => ∃ (a : Addr) (its : List Addr) (ps : List XE) (kvs : List (List D × D)), us = [V.ref a] ∧ (SqL L.F H a (its.map V.ref) ∨ Solid L.F H a (its.map V.ref)) ∧ Paired (fun t p => SqT L.F H t [V.ref p.2.1, p.2.2]) its ps ∧ DtR L.F H kvs ps ∧
      ∀ p, H p = none → DtAt L.w (upd H p (DtO L.w p (allX ps))) p (allX ps) → Q (.ref p) (upd H p (DtO L.w p (allX ps)))
  | .sorted => rSortU2 L
  | .str => fun us H Q => (∃ a, us = [V.str a] ∧ Q (.str a) H) ∨ rStrT L.F us H Q
  | _ => rNo
theorem flat_all {n : Nat} : ∀ {ds : List D}, D.flats n ds = true → ∀ x ∈ ds, D.flat n x = true
  | [], _, x, hx => by cases hx
  | d :: ds, fl, x, hx => by
    have h : D.flat n d = true ∧ D.flats n ds = true := by simpa [D.flats] using fl
    rcases List.mem_cons.mp hx with e | hx
    · subst e; exact h.1
    · exact flat_all h.2 x hx
theorem each_of {F : PySem.W.Frag} {H : Hp} : ∀ {ds : List D} {xs : List V} {its : List Value}, Rps F H ds xs → Vals xs its → PySem.W.EachIs (fun (v : Value) (d : D) => ∃ x : V, RelV x v ∧ Rp F H d x) its ds
  | _, _, _, .nil, .nil => .nil
  | _, _, _, .cons r rs, .cons a b => .cons ⟨_, a, r⟩ (each_of rs b)
theorem map_sort {α : Type} {r s : α → α → Bool} {l : List α} (h : ∀ a ∈ l, ∀ b ∈ l, r a b = s a b) : l.mergeSort r = l.mergeSort s := by
  have := List.map_mergeSort (r := r) (s := s) (f := id) (l := l) h
  simpa using this
section
variable {X : Cx} {L : Lk}
theorem cr_sortU (hk : X.K = L.F) (hu : X.A.units + 65 < cLine) : CallR X (.builtin "sorted") (rSortU2 L) := by
  intro pins s σ H vs us Q I r h
  obtain ⟨a, xs, ds, rfl, hs, rs, so, q⟩ := h
  rw [← hk] at hs
  obtain ⟨its, rv, hl, hz⟩ := I.list hs
  rw [Vals.ref1 r]
  simp only [sortable, Bool.and_eq_true, Bool.or_eq_true, decide_eq_true_eq] at so
  obtain ⟨⟨⟨kind, al⟩, fl⟩, _⟩ := so
  have alk : ∀ x ∈ ds, ∀ y ∈ ds, D.alike x y = true := fun x hx y hy => by
    have := List.all_eq_true.mp al x hx
    exact List.all_eq_true.mp this y hy
  have flt := flat_all fl
  have e1 := each_of rs rv
  have e2 : PySem.W.EachIs (fun (v : Value) (d : D) => ∃ as, Reads s.heap v (toP d) as) its ds := by
    have key : ∀ {its : List Value} {ds : List D}, (∀ x ∈ ds, D.flat 59 x = true) → PySem.W.EachIs (fun (v : Value) (d : D) => ∃ x : V, RelV x v ∧ Rp L.F H d x) its ds → PySem.W.EachIs (fun (v : Value) (d : D) => ∃ as, Reads s.heap v (toP d) as) its ds := by
      intro its ds hf h
      induction h with
      | nil => exact .nil
      | cons h _ ih =>
        obtain ⟨x, h1, h2⟩ := h
        refine .cons ?_ (ih fun y hy => hf y (List.mem_cons_of_mem _ hy))
        have rel0 : Rel L (fun _ => none) H := fun _ _ e => by cases e
        have d1 := (flat_self (m := fun _ => none) (hf _ List.mem_cons_self)).dp rel0 h2
        rw [← hk] at d1
        exact Dp.reads I _ _ _ d1 h1
    exact key flt e1
  refine PySem.W.sorted_data (enc := toP) hl.isList e1 e2 ?_ ?_ (by rw [rs.length]; exact hz) (fun d hd => ?_) fun out ho he => ?_
  · intro d hd d2 hd2
    obtain ⟨x, hx, rfl⟩ := List.mem_map.mp hd
    obtain ⟨y, hy, rfl⟩ := List.mem_map.mp hd2
    exact alike_P (alk x hx y hy)
  · rcases kind with k | k
    · refine .inl fun d hd => ?_
      obtain ⟨x, hx, rfl⟩ := List.mem_map.mp hd
      have h1 := List.all_eq_true.mp k x hx
      cases x with
      | tup es => cases es with
        | nil => cases h1
        | cons e es => exact ⟨toP e, toPs es, by simp [toP, toPs]⟩
      | _ => cases h1
    · refine .inr fun d hd => ?_
      obtain ⟨x, hx, rfl⟩ := List.mem_map.mp hd
      have h1 := List.all_eq_true.mp k x hx
      cases x with
      | str s => exact ⟨by simp [toP], fun xs => by simp [toP]⟩
      | _ => cases h1
  · have := shp_dep (flat_shp (flt d hd))
    omega
  · have e3 : ds.mergeSort (PySem.W.dataLe false toP) = ds.mergeSort leD := map_sort fun x hx y hy => by
      rw [PySem.W.dataLe_eq]
      show (!PySem.W.dataLt (toP y) (toP x)) = !D.lt y x
      rw [lt_P (alk y hy x hx) (flt y hy) (flt x hx)]
    rw [e3] at he
    have key : ∀ {out : List Value} {es : List D}, PySem.W.EachIs (fun (v : Value) (d : D) => ∃ x : V, RelV x v ∧ Rp L.F H d x) out es → ∃ ys, Vals ys out ∧ Rps L.F H es ys := by
      intro out es h
      induction h with
      | nil => exact ⟨[], .nil, .nil⟩
      | cons h _ ih =>
        obtain ⟨x, h1, h2⟩ := h
        obtain ⟨ys, h3, h4⟩ := ih
        exact ⟨x :: ys, .cons h1 h3, .cons h2 h4⟩
    obtain ⟨ys, r3, r4⟩ := key he
    obtain ⟨ep, hat⟩ := PyProof.Rows.sortedAll_at s.heap its out.toArray
    have hlen : ys.length ≤ sizeLine := by
      rw [r3.length, ho, rs.length]
      exact hz
    exact ⟨.ref _, upd H (s.heap.objs.size + 1) (.lst ys), I.laid (t' := s.toks) (fun _ _ => PyProof.Rows.sortedAll_old) (Nat.le_succ _) ⟨hlen, out, ep, r3, hat⟩, rfl, q _ _ (I.hok.fresh (Nat.le_succ _)) r4⟩
theorem bfTS (hk : X.K = L.F) (hw : X.w = L.w) (hc : X.calm = true) (hu : X.A.units + 65 < cLine) : ∀ f : Bf, CallR X (bfV f) (bfT L f)
  | .len => fun pins s σ H xs us Q I r h => by
    obtain ⟨a, kvs, es, rfl, D, q⟩ := h
    rw [Vals.ref1 r]
    exact dt_len I (D.now hk hw I) q
  | .list => fun pins s σ H xs us Q I r h => by
    obtain ⟨a, es, rfl, D, q⟩ := h
    rw [Vals.ref1 r]
    rw [← hw] at D
    exact dt_list hc I D q
  | .dict => fun pins s σ H xs us Q I r h => by
    obtain ⟨a, its, ps, kvs, rfl, hq, hp, rr, q⟩ := h
    rw [Vals.ref1 r]
    have kin := keysIn_of hk I rr
    rw [← hk] at hq hp
    rw [← hw] at q
    rcases hq with hq | hq
    · exact dt_pairs hc (by omega) I hq hp kin q
    · exact dt_pairsZ hc (by omega) I hq hp kin q
  | .sorted => cr_sortU hk hu
  | .str => (SkE.call_str_str (X := X)).or (by rw [← hk]; exact call_str_tup hu)
  | .abs => no_call | .int => no_call | .ord => no_call | .min => no_call | .max => no_call | .sum => no_call | .all => no_call | .any => no_call | .tuple => no_call | .set => no_call
end
def bfR (L : Lk) (f : Bf) : RC := fun xs H Q => bfR0 L.F f xs H Q ∨ bfT L f xs H Q
theorem bfS {X : Cx} {L : Lk} (hk : X.K = L.F) (hw : X.w = L.w) (hc : X.calm = true) (hu : X.A.units + 65 < cLine) (f : Bf) : CallR X (bfV f) (bfR L f) := by
  have h := bfS0 (X := X) hc f
  rw [hk] at h
  exact h.or (bfTS hk hw hc hu f)
theorem digits_ok (i : Int) : (Str.ofString (toString i)) = toS (digitsT i) := by
  unfold Str.ofString digitsT toS
  rw [cpsOfBytes_string]
mutual
theorem shwN_ok {F : PySem.W.Frag} {H : Hp} : ∀ {d : D} {k : Nat} {v : V} {N : Nat}, shwN k d = some N → Rp F H d v → ShV F H k v N
  | .int i, k, _, N, h, r => by
    cases r
    simp only [shwN] at h
    split at h
    · rename_i hi
      cases h
      have e := digits_ok i
      have : (digitsT i).length = (Str.ofString (toString i)).length := by rw [e, toS_len]
      rw [this]
      exact .int hi
    · cases h
  | .str s, k, _, N, h, r => by
    cases r
    simp only [shwN] at h
    split at h
    · rename_i hi
      cases h
      have : 10 * s.length + 2 = 10 * (toS s).length + 2 := by rw [toS_len]
      rw [this]
      refine .str (fun c hc => ?_) (by rw [toS_len, sizeLine_eq]; have := hi.2; omega)
      have h2 := List.all_eq_true.mp hi.1 c (by simpa [toS] using hc)
      have h3 := of_decide_eq_true h2
      omega
    · cases h
  | .tup ds, 0, _, N, h, r => by simp only [shwN] at h; cases h
  | .tup ds, k + 1, _, N, h, r => by
    cases r with
    | tup sa ra =>
      simp only [shwN, Option.map_eq_some_iff] at h
      obtain ⟨Ns, h1, h2⟩ := h
      subst h2
      exact .tup sa.sq (shwL_ok h1 ra)
  | .non, _, _, _, h, _ => by simp only [shwN] at h; cases h
  | .bl _, _, _, _, h, _ => by simp only [shwN] at h; cases h
  | .lst _, _, _, _, h, _ => by simp only [shwN] at h; cases h
  | .ref _, _, _, _, h, _ => by simp only [shwN] at h; cases h
  | .exc _ _, _, _, _, h, _ => by simp only [shwN] at h; cases h
theorem shwL_ok {F : PySem.W.Frag} {H : Hp} : ∀ {ds : List D} {k : Nat} {vs : List V} {Ns : List Nat}, shwL k ds = some Ns → Rps F H ds vs → ShVs F H k vs Ns
  | [], k, _, Ns, h, r => by
    cases r
    simp only [shwL] at h
    cases h
    exact .nil
  | d :: ds, k, _, Ns, h, r => by
    cases r with
    | cons r1 r2 =>
      simp only [shwL] at h
      split at h
      · rename_i n1 n2 e1 e2
        cases h
        exact .cons (shwN_ok e1 r1) (shwL_ok e2 r2)
      · cases h
end
theorem minI_ok : ∀ {ns : List Int}, ns ≠ [] → minI ns ∈ ns ∧ ∀ y ∈ ns, minI ns ≤ y
  | [], h => absurd rfl h
  | [x], _ => ⟨by simp [minI], fun y hy => by simp at hy; simp [minI, hy]⟩
  | x :: z :: r, _ => by
    obtain ⟨h1, h2⟩ := minI_ok (ns := z :: r) (by simp)
    simp only [minI]
    split
    · rename_i h
      refine ⟨List.mem_cons_self .., fun y hy => ?_⟩
      rcases List.mem_cons.mp hy with rfl | hy
      · exact Int.le_refl _
      · exact Int.le_trans h (h2 y hy)
    · rename_i h
      refine ⟨List.mem_cons_of_mem _ h1, fun y hy => ?_⟩
      rcases List.mem_cons.mp hy with rfl | hy
      · omega
      · exact h2 y hy
theorem maxI_ok : ∀ {ns : List Int}, ns ≠ [] → maxI ns ∈ ns ∧ ∀ y ∈ ns, y ≤ maxI ns
  | [], h => absurd rfl h
  | [x], _ => ⟨by simp [maxI], fun y hy => by simp at hy; simp [maxI, hy]⟩
  | x :: z :: r, _ => by
    obtain ⟨h1, h2⟩ := maxI_ok (ns := z :: r) (by simp)
    simp only [maxI]
    split
    · rename_i h
      refine ⟨List.mem_cons_self .., fun y hy => ?_⟩
      rcases List.mem_cons.mp hy with rfl | hy
      · exact Int.le_refl _
      · exact Int.le_trans (h2 y hy) h
    · rename_i h
      refine ⟨List.mem_cons_of_mem _ h1, fun y hy => ?_⟩
      rcases List.mem_cons.mp hy with rfl | hy
      · omega
      · exact h2 y hy
section
variable {L : Lk} {m : Hm} {H : Hp} {P : PD} {Q : VK} {x y : D} {v u : V} {a : Addr} {xs : List D} {vs : List V}
theorem lst_of {ds : List D} (e : m a = some (.lst ds)) (rel : Rel L m H) : ∃ ws, SqL L.F H a ws ∧ Rps L.F H ds ws ∧ H a = some (.lst ws) := by
  obtain ⟨ws, h1, h2⟩ := rel _ _ e
  exact ⟨ws, SqL.of h1, h2, h1⟩
theorem getL_of {ds : List D} (e : getL m a = some ds) : m a = some (.lst ds) := by
  unfold getL at e
  split at e
  · rename_i h; cases e; exact h
  · cases e
theorem pairs_ok : ∀ {ds : List D} {ws : List V} {kvs : List (Ky × D)}, pairsOf ds = some kvs → Rps L.F H ds ws → ∃ (ps : List Addr) (kws : List (Key × V)), ws = ps.map V.ref ∧ Paired (fun p kv => SqT L.F H p [kV kv.1, kv.2]) ps kws ∧ KvR L.F H kyV kvs kws
  | [], _, _, e, .nil => by
    cases e
    exact ⟨[], [], rfl, .nil, .nil⟩
  | d :: ds, _, kvs, e, .cons r rs => by
    simp only [pairsOf] at e
    split at e
    · rename_i k v
      cases e1 : kyOf k with
      | none => rw [e1] at e; cases e
      | some j =>
        rw [e1] at e
        cases e2 : pairsOf ds with
        | none => rw [e2] at e; cases e
        | some t =>
          rw [e2] at e
          cases e
          obtain ⟨ps, kws, h1, h2, h3⟩ := pairs_ok e2 rs
          cases r with
          | @tup _ a us sq ru =>
            cases ru with
            | cons r1 r2 => cases r2 with
              | cons r2 r3 =>
                cases r3
                have e3 := ky_rp e1 r1
                subst e3
                exact ⟨a :: ps, (kyV j, _) :: kws, by rw [h1]; rfl, .cons sq.sq h2, .cons ⟨rfl, r2⟩ h3⟩
    · cases e
theorem merge_ok {kvs : List (Ky × D)} {kws : List (Key × V)} (h : KvR L.F H kyV kvs kws) : KvR L.F H kyV (mergeD kvs) (mergeK [] kws) := by
  have key : ∀ {kvs : List (Ky × D)} {kws : List (Key × V)}, KvR L.F H kyV kvs kws → ∀ {a : List (Ky × D)} {b : List (Key × V)}, KvR L.F H kyV a b → KvR L.F H kyV (kvs.foldl (fun acc kv => putk acc kv.1 kv.2) a) (kws.foldl (fun acc kv => putK acc kv.1 kv.2) b) := by
    intro kvs kws h
    induction h with
    | nil => exact fun r => r
    | @cons p q ps qs hp _ ih =>
      intro a b r
      obtain ⟨e1, e2⟩ := hp
      rw [List.foldl_cons, List.foldl_cons, e1]
      exact ih (r.put (fun _ _ => kyV_inj) e2)
  exact key h .nil
theorem keys_ok : ∀ {kvs : List (Ky × D)} {kws : List (Key × V)}, KvR L.F H kyV kvs kws → Rps L.F H (kvs.map fun kv => dOf kv.1) (kws.map fun kv => kV kv.1)
  | [], _, .nil => .nil
  | (k, _) :: _, _, .cons (b := (j, _)) ⟨e, _⟩ rs => by
    have e : j = kyV k := e
    subst e
    refine .cons ?_ (keys_ok rs)
    cases k with
    | inl i => exact .int i
    | inr s => exact .str s
theorem pairsT_ok : ∀ {ds : List D} {ws : List V} {kvs : List (List D × D)}, pairsT ds = some kvs → Rps L.F H ds ws → ∃ (its : List Addr) (ps : List XE), ws = its.map V.ref ∧ Paired (fun t p => SqT L.F H t [V.ref p.2.1, p.2.2]) its ps ∧ DtR L.F H kvs ps
  | [], _, _, e, .nil => by
    cases e
    exact ⟨[], [], rfl, .nil, .nil⟩
  | d :: ds, _, kvs, e, .cons r rs => by
    simp only [pairsT] at e
    split at e
    · rename_i ks v
      split at e
      · rename_i hs
        cases e2 : pairsT ds with
        | none => rw [e2] at e; cases e
        | some t =>
          rw [e2] at e
          cases e
          obtain ⟨its, ps, h1, h2, h3⟩ := pairsT_ok e2 rs
          cases r with
          | @tup _ a us sq ru =>
            cases ru with
            | cons r1 r2 => cases r2 with
              | @cons _ w _ _ r2 r3 =>
                cases r3
                obtain ⟨b, rfl⟩ := r1.tup_ref
                exact ⟨a :: its, (nkT ks, b, w) :: ps, by rw [h1]; rfl, .cons sq.sq h2, .cons ⟨rfl, hs, r1, r2⟩ h3⟩
      · cases e
    · cases e
theorem mergeT_ok {kvs : List (List D × D)} {ps : List XE} (h : DtR L.F H kvs ps) : DtR L.F H (mergeT kvs) (allX ps) := by
  have key : ∀ {kvs : List (List D × D)} {ps : List XE}, DtR L.F H kvs ps → ∀ {a : List (List D × D)} {b : List XE}, DtR L.F H a b → DtR L.F H (kvs.foldl (fun acc kv => putk acc kv.1 kv.2) a) (ps.foldl (fun acc p => putX acc p.1 p.2.1 p.2.2) b) := by
    intro kvs ps h
    induction h with
    | nil => exact fun r => r
    | @cons p q _ _ hp _ ih =>
      intro a b r
      obtain ⟨e1, e2, e3, e4⟩ := hp
      rw [List.foldl_cons, List.foldl_cons, e1]
      exact ih (putT e2 e3 e4 r)
  exact key h .nil
theorem addrs_ok : ∀ {kvs : List (List D × D)} {xs : List XE}, DtR L.F H kvs xs → Rps L.F H (kvs.map fun kv => D.tup kv.1) (xs.map fun x => V.ref x.2.1)
  | _, _, .nil => .nil
  | _, _, .cons h rs => .cons h.2.2.1 (addrs_ok rs)
theorem bf_ok {f : Bf} (h : bfW f xs m P) (rx : Rps L.F H xs vs) (rel : Rel L m H) (q : Kt L H P Q) : bfR L f vs H Q := by
  cases rx with
  | nil => cases f <;> exact h.elim
  | @cons x v xs vs r1 rs =>
    cases rs with
    | nil =>
      cases f with
      | len =>
        cases r1 with
        | @tup ds a ws sq rw1 => exact .inl (.inl ⟨_, _, rfl, .inr ⟨ws, sq.sq, rfl⟩, q.here (by rw [← rw1.length]; exact h) (.int _) rel⟩)
        | @lst ds a ws sq rw1 => exact .inl (.inl ⟨_, _, rfl, .inl ⟨ws, sq.sq, rfl⟩, q.here (by rw [← rw1.length]; exact h) (.int _) rel⟩)
        | str s => exact .inl (.inl ⟨_, _, rfl, ⟨by rw [toS_len]; exact SZ_line h.1, rfl⟩, q.here (by rw [toS_len]; exact h.2) (.int _) rel⟩)
        | ref a =>
          simp only [bfW] at h
          split at h
          · rename_i ds e
            obtain ⟨ws, h1, h2, _⟩ := lst_of e rel
            exact .inl (.inl ⟨_, _, rfl, .inl ⟨ws, h1, rfl⟩, q.here (by rw [← h2.length]; exact h) (.int _) rel⟩)
          · rename_i kvs e
            obtain ⟨kws, h1, h2⟩ := rel _ _ e
            exact .inl (.inr ⟨a, kws, rfl, h1, q.here (by rw [← h2.len]; exact h) (.int _) rel⟩)
          · rename_i kvs e
            obtain ⟨xs, h1, h2⟩ := rel _ _ e
            exact .inr ⟨a, kvs, xs, rfl, .inl ⟨h1, h2⟩, q.here (by rw [← h2.len]; exact h) (.int _) rel⟩
          · exact h.elim
        | _ => exact h.elim
      | abs => cases r1 with
        | int i => exact .inl (⟨i, rfl, q.here h (.int _) rel⟩)
        | _ => exact h.elim
      | int => cases r1 with
        | int i => exact .inl (.inl (.inl ⟨i, rfl, q.here h (.int _) rel⟩))
        | bl b => exact .inl (.inl (.inr ⟨b, rfl, q.here h (.int _) rel⟩))
        | str s =>
          obtain ⟨n, hn, hp⟩ := h
          obtain ⟨h1, h2⟩ := numT_ok hn
          exact .inl (.inr ⟨_, n, rfl, h1, by rw [toS_len]; omega, q.here hp (.int _) rel⟩)
        | _ => exact h.elim
      | str => cases r1 with
        | bl b => exact .inl (.inr ⟨b, rfl, by rw [boolT_ok]; exact q.here h (.str _) rel⟩)
        | int i => exact .inl (.inl ⟨i, rfl, h.1, by
            have e := digits_ok i
            show Q (.str (Str.ofString (toString i))) H
            rw [e]
            exact q.here h.2 (.str _) rel⟩)
        | str s => exact .inr (.inl ⟨_, rfl, q.here h (.str _) rel⟩)
        | @tup ds a vs sa ra =>
          obtain ⟨Ns, h1, h2, h3⟩ := h
          have hz : pil Ns + 7 ≤ sizeLine := by
            rw [sizeLine_eq]
            have : pilN Ns + 7 ≤ 100000 := h2
            show pilN Ns + 7 ≤ _
            omega
          refine .inr (.inr ⟨a, vs, 20, Ns, rfl, sa.sq, shwL_ok h1 ra, by decide, hz, fun z hl => ?_⟩)
          have hzz : z = toS z.cps.toList := by cases z; simp [toS]
          have hlen : z.cps.toList.length ≤ pilN Ns + 7 := by
            rw [hzz, toS_len] at hl
            exact hl
          rw [hzz]
          exact q.here (h3 _ hlen) (.str _) rel
        | _ => exact h.elim
      | ord => cases r1 with
        | str s =>
          cases s with
          | nil => exact h.elim
          | cons c r => cases r with
            | nil => exact .inl (⟨_, rfl, rfl, q.here (d := .int c) h (.int _) rel⟩)
            | cons _ _ => exact h.elim
        | _ => exact h.elim
      | min => cases r1 with
        | ref a =>
          simp only [bfW] at h
          split at h
          · rename_i ds e
            obtain ⟨ns, h1, h2, h3⟩ := h
            obtain ⟨ws, k1, k2, _⟩ := lst_of e rel
            have e2 := k2.ints h1
            subst e2
            refine .inl (.inr (.inl ⟨a, ns, rfl, k1, List.length_pos_iff.mpr h2, fun z hz hle => ?_⟩))
            obtain ⟨o1, o2⟩ := minI_ok h2
            have e3 : z = minI ns := Int.le_antisymm (hle _ o1) (o2 _ hz)
            rw [e3]
            exact q.here h3 (.int _) rel
          · exact h.elim
        | @tup es a ws sq rw1 =>
          obtain ⟨ns, h1, h2, h3⟩ := h
          have e2 := rw1.ints h1
          subst e2
          refine .inl (.inr (.inr ⟨a, ns, rfl, sq.sq, List.length_pos_iff.mpr h2, fun z hz hle => ?_⟩))
          obtain ⟨o1, o2⟩ := minI_ok h2
          have e3 : z = minI ns := Int.le_antisymm (hle _ o1) (o2 _ hz)
          rw [e3]
          exact q.here h3 (.int _) rel
        | _ => exact h.elim
      | max => cases r1 with
        | ref a =>
          simp only [bfW] at h
          split at h
          · rename_i ds e
            obtain ⟨ns, h1, h2, h3⟩ := h
            obtain ⟨ws, k1, k2, _⟩ := lst_of e rel
            have e2 := k2.ints h1
            subst e2
            refine .inl (.inr (.inl ⟨a, ns, rfl, k1, List.length_pos_iff.mpr h2, fun z hz hle => ?_⟩))
            obtain ⟨o1, o2⟩ := maxI_ok h2
            have e3 : z = maxI ns := Int.le_antisymm (o2 _ hz) (hle _ o1)
            rw [e3]
            exact q.here h3 (.int _) rel
          · exact h.elim
        | @tup es a ws sq rw1 =>
          obtain ⟨ns, h1, h2, h3⟩ := h
          have e2 := rw1.ints h1
          subst e2
          refine .inl (.inr (.inr ⟨a, ns, rfl, sq.sq, List.length_pos_iff.mpr h2, fun z hz hle => ?_⟩))
          obtain ⟨o1, o2⟩ := maxI_ok h2
          have e3 : z = maxI ns := Int.le_antisymm (o2 _ hz) (hle _ o1)
          rw [e3]
          exact q.here h3 (.int _) rel
        | _ => exact h.elim
      | sum => cases r1 with
        | ref a =>
          simp only [bfW] at h
          split at h
          · rename_i ds e
            obtain ⟨ns, h1, h3⟩ := h
            obtain ⟨ws, k1, k2, _⟩ := lst_of e rel
            have e2 := k2.ints h1
            subst e2
            exact .inl (.inl ⟨a, ns, rfl, k1, q.here h3 (.int _) rel⟩)
          · exact h.elim
        | @tup es a ws sq rw1 =>
          obtain ⟨ns, h1, h3⟩ := h
          have e2 := rw1.ints h1
          subst e2
          exact .inl (.inr ⟨a, ns, rfl, sq.sq, q.here h3 (.int _) rel⟩)
        | _ => exact h.elim
      | all => cases r1 with
        | ref a =>
          simp only [bfW] at h
          split at h
          · rename_i ds e
            obtain ⟨ns, h1, h3⟩ := h
            obtain ⟨ws, k1, k2, _⟩ := lst_of e rel
            have e2 := k2.bls h1
            subst e2
            exact .inl (⟨a, ns, rfl, k1, q.here h3 (.bl _) rel⟩)
          · exact h.elim
        | _ => exact h.elim
      | any => cases r1 with
        | ref a =>
          simp only [bfW] at h
          split at h
          · rename_i ds e
            obtain ⟨ns, h1, h3⟩ := h
            obtain ⟨ws, k1, k2, _⟩ := lst_of e rel
            have e2 := k2.bls h1
            subst e2
            exact .inl (⟨a, ns, rfl, k1, q.here h3 (.bl _) rel⟩)
          · exact h.elim
        | _ => exact h.elim
      | sorted => cases r1 with
        | ref a =>
          simp only [bfW] at h
          split at h
          · rename_i ds e
            obtain ⟨ws, k1, k2, _⟩ := lst_of e rel
            split at h
            · rename_i ns h1
              have h3 := h
              have e2 := k2.ints h1
              subst e2
              refine .inl (⟨a, ns, rfl, k1, fun ms p hp ho hf => ?_⟩)
              have e3 : ms = ns.mergeSort fun a b => decide (a ≤ b) := by
                refine List.Perm.eq_of_pairwise (le := (· ≤ ·)) (fun a b _ _ h1 h2 => Int.le_antisymm h1 h2) ho ?_ (hp.trans (List.mergeSort_perm ns _).symm)
                have := List.pairwise_mergeSort (le := fun a b : Int => decide (a ≤ b)) (fun a b c h1 h2 => by simp only [decide_eq_true_eq] at *; omega) (fun a b => by simp only [Bool.or_eq_true, decide_eq_true_eq]; omega) ns
                exact this.imp fun h => of_decide_eq_true h
              rw [e3]
              exact q.lst h3 (.mkInts _) rel hf
            · obtain ⟨so, h3⟩ := h
              exact .inr ⟨a, ws, ds, rfl, k1, k2, so, fun p ys hp ry => q.lst h3 ry rel hp⟩
          · exact h.elim
        | _ => exact h.elim
      | list =>
        obtain ⟨ds, h1, h2⟩ := h
        cases r1 with
        | @tup es a ws sq rw1 =>
          cases h1
          exact .inl (.inl ⟨a, ws, rfl, .inr sq.sq, fun l hl => q.lst h2 rw1 rel hl⟩)
        | @lst es a ws sq rw1 =>
          cases h1
          exact .inl (.inl ⟨a, ws, rfl, .inl sq.sq, fun l hl => q.lst h2 rw1 rel hl⟩)
        | ref a =>
          simp only [seqOf] at h1
          split at h1
          · rename_i es e
            cases h1
            obtain ⟨ws, k1, k2, _⟩ := lst_of e rel
            exact .inl (.inl ⟨a, ws, rfl, .inl k1, fun l hl => q.lst h2 k2 rel hl⟩)
          · rename_i kvs e
            cases h1
            obtain ⟨kws, k1, k2⟩ := rel _ _ e
            exact .inl (.inr ⟨a, kws, rfl, k1, fun l hl => q.lst h2 (keys_ok k2) rel hl⟩)
          · rename_i kvs e
            cases h1
            obtain ⟨xs, k1, k2⟩ := rel _ _ e
            exact .inr ⟨a, xs, rfl, k1, fun l hl => q.lst h2 (addrs_ok k2) rel hl⟩
          · cases h1
        | _ => cases h1
      | dict => cases r1 with
        | @tup ds a ws sq k2 =>
          have h : dictW ds m P := h
          unfold dictW at h
          split at h
          · rename_i kvs h1
            obtain ⟨ps, kws, e1, e2, e3⟩ := pairs_ok h1 k2
            subst e1
            refine .inl (.inr (.inr ⟨a, ps, kws, rfl, sq, e2, fun p hp => ?_⟩))
            exact q _ _ _ _ (h p (rel.free hp)) (.ref p) (rel.put (.new hp) ⟨_, upd_same, (merge_ok e3).mono (.new hp)⟩) (.new hp)
          · obtain ⟨kvs, h1, h2⟩ := h
            obtain ⟨its, ps, e1, e2, e3⟩ := pairsT_ok h1 k2
            subst e1
            exact .inr ⟨a, its, ps, kvs, rfl, .inr sq, e2, e3, fun p hp D => q _ _ _ _ (h2 p (rel.free hp)) (.ref p) (rel.put (.new hp) ⟨_, D, (mergeT_ok e3).mono (.new hp)⟩) (.new hp)⟩
        | ref a =>
          simp only [bfW] at h
          split at h
          · rename_i ds e
            obtain ⟨ws, k1, k2, _⟩ := lst_of e rel
            unfold dictW at h
            split at h
            · rename_i kvs h1
              obtain ⟨ps, kws, e1, e2, e3⟩ := pairs_ok h1 k2
              subst e1
              refine .inl (.inl ⟨a, ps, kws, rfl, k1, e2, fun p hp => ?_⟩)
              exact q _ _ _ _ (h p (rel.free hp)) (.ref p) (rel.put (.new hp) ⟨_, upd_same, (merge_ok e3).mono (.new hp)⟩) (.new hp)
            · obtain ⟨kvs, h1, h2⟩ := h
              obtain ⟨its, ps, e1, e2, e3⟩ := pairsT_ok h1 k2
              subst e1
              exact .inr ⟨a, its, ps, kvs, rfl, .inl k1, e2, e3, fun p hp D => q _ _ _ _ (h2 p (rel.free hp)) (.ref p) (rel.put (.new hp) ⟨_, D, (mergeT_ok e3).mono (.new hp)⟩) (.new hp)⟩
          · rename_i kvs e
            obtain ⟨kws, k1, k2⟩ := rel _ _ e
            refine .inl (.inr (.inl ⟨a, kws, rfl, .inl k1, fun p hp => ?_⟩))
            exact q _ _ _ _ (h p (rel.free hp)) (.ref p) (rel.put (.new hp) ⟨_, upd_same, k2.mono (.new hp)⟩) (.new hp)
          · exact h.elim
        | _ => exact h.elim
      | tuple => cases r1 with
        | @tup es a ws sq rw1 => exact .inl (⟨a, ws, rfl, .inr ⟨sq.sq, q.here h (.tup sq rw1) rel⟩⟩)
        | ref a =>
          simp only [bfW] at h
          split at h
          · rename_i ds e
            obtain ⟨ws, k1, k2, _⟩ := lst_of (getL_of e) rel
            exact .inl (⟨a, ws, rfl, .inl ⟨k1, q.tup h k2 rel⟩⟩)
          · exact h.elim
        | _ => exact h.elim
      | set => cases r1 <;> exact h.elim
    | @cons y u ys us r2 rs =>
      cases rs with
      | nil =>
        cases f with
        | min => cases r1 with
          | int i => cases r2 with
            | int j => exact .inl (.inl ⟨i, j, rfl, q.here h (.int _) rel⟩)
            | _ => exact h.elim
          | _ => exact h.elim
        | max => cases r1 with
          | int i => cases r2 with
            | int j => exact .inl (.inl ⟨i, j, rfl, q.here h (.int _) rel⟩)
            | _ => exact h.elim
          | _ => exact h.elim
        | _ => cases r1 <;> first | exact h.elim | (simp [bfW] at h)
      | cons r3 rs => cases f <;> cases r1 <;> first | exact h.elim | (simp [bfW] at h) | (cases r2 <;> first | exact h.elim | (simp [bfW] at h))
end
end Mn
end

section
set_option Elab.async false
set_option linter.all false
set_option maxRecDepth 100000
set_option maxHeartbeats 4000000
namespace Mn
open PySem PySem.Spec PyProof.Rows L2 TL
def bmT : Nat → String
  | 1 => "list" | 2 => "dict" | _ => "str"
def bmId : Bm → Nat → String
  | .append, _ => "list.append" | .extend, _ => "list.extend" | .pop, 1 => "list.pop" | .pop, _ => "dict.pop" | .insert, _ => "list.insert" | .reverse, _ => "list.reverse" | .clear, _ => "list.clear"
  | .index, _ => "list.index" | .count, _ => "list.count" | .get, _ => "dict.get" | .setdefault, _ => "dict.setdefault" | .join, _ => "str.join"
  | .upper, _ => "str.upper" | .partition, _ => "str.partition" | .split, _ => "str.split" | .startswith, _ => "str.startswith" | _, _ => "none"
def rDPop : RM := fun x vs H Q => ∃ a kvs k z, x = V.ref a ∧ vs = [kV k, z] ∧ H a = some (.dK kvs) ∧ (∀ v, valV kvs k = some v → Q v (upd H a (.dK (dropK kvs k)))) ∧ (valV kvs k = none → Q z H)
def rDGet : RM := fun x vs H Q => ∃ a y z o, x = V.ref a ∧ vs = [y, z] ∧ DGet H a y o ∧ Q (o.getD z) H
section
variable {X : Cx}
theorem mt_dpop : MtR X "dict.pop" rDPop := by
  intro pins s σ H x xs v us Q I rx rs h
  obtain ⟨a, kvs, k, z, rfl, rfl, ha, q1, q2⟩ := h
  obtain rfl : v = Value.ref a := rx
  obtain ⟨u1, u2, rfl, r1, r2⟩ := rs.two
  cases e : valV kvs k with
  | none => exact d_popD I ha r1 e fun s2 I2 => ⟨z, H, I2, r2, q2 e⟩
  | some w => exact d_pop I ha r1 e (.inr ⟨u2, rfl⟩) fun w2 s2 I2 r3 => ⟨w, _, I2, r3, q1 w e⟩
theorem mt_dget (hu : X.A.units + 1 < cLine) : MtR X "dict.get" rDGet := by
  intro pins s σ H x xs v us Q I rx rs h
  obtain ⟨a, y, z, o, rfl, rfl, g, q⟩ := h
  obtain rfl : v = Value.ref a := rx
  obtain ⟨u1, u2, rfl, r1, r2⟩ := rs.two
  exact d_get2 hu I g r1 r2 fun w2 s2 I2 r3 => ⟨_, H, I2, r3, q⟩
end
/-- of a dict with tuples for keys -/
def rTPop (L : Lk) : RM := fun x vs H Q => ∃ a kvs xs ks y more, x = V.ref a ∧ vs = y :: more ∧ more.length ≤ 1 ∧ DtV L H a kvs xs ∧ Rp L.F H (.tup ks) y ∧ D.keyds 7 ks = true ∧
  (∀ v, getX xs (nkT ks) = some v → DtAt L.w (upd H a (DtO L.w a (dropX xs (nkT ks)))) a (dropX xs (nkT ks)) → Q v (upd H a (DtO L.w a (dropX xs (nkT ks))))) ∧ (getX xs (nkT ks) = none → ∃ z, more = [z] ∧ Q z H)
def rTGet (L : Lk) : RM := fun x vs H Q => ∃ a kvs xs ks y z, x = V.ref a ∧ vs = [y, z] ∧ DtV L H a kvs xs ∧ Rp L.F H (.tup ks) y ∧ D.keyds 7 ks = true ∧ Q ((getX xs (nkT ks)).getD z) H
def rDPop1 : RM := fun x vs H Q => ∃ a kvs k v, x = V.ref a ∧ vs = [kV k] ∧ H a = some (.dK kvs) ∧ valV kvs k = some v ∧ Q v (upd H a (.dK (dropK kvs k)))
section
variable {X : Cx} {L : Lk}
theorem mt_dpop1 : MtR X "dict.pop" rDPop1 := by
  intro pins s σ H x xs v us Q I rx rs h
  obtain ⟨a, kvs, k, z, rfl, rfl, ha, g, q⟩ := h
  obtain rfl : v = Value.ref a := rx
  obtain ⟨u1, rfl, r1⟩ := rs.one
  exact d_pop I ha r1 g (.inl rfl) fun w2 s2 I2 r3 => ⟨z, _, I2, r3, q⟩
theorem mt_tpop (hk : X.K = L.F) (hw : X.w = L.w) (hu : X.A.units + 65 < cLine) : MtR X "dict.pop" (rTPop L) := by
  intro pins s σ H x vs v us Q I rx rs h
  obtain ⟨a, kvs, xs, ks, y, more, rfl, rfl, hm, D, rk, hs, q1, q2⟩ := h
  obtain rfl : v = Value.ref a := rx
  obtain ⟨b, rfl⟩ := rk.tup_ref
  have N := D.now hk hw I
  have ki := keyT_is hk I hs rk
  cases rs with
  | cons r1 rt =>
    rename_i u1 ut
    obtain rfl : u1 = Value.ref b := r1
    cases e : getX xs (nkT ks) with
    | none =>
      obtain ⟨z, rfl, q⟩ := q2 e
      obtain ⟨u2, rfl, r2⟩ := Vals.one rt
      exact dt_popD (by omega) I N ki e fun s2 I2 => ⟨z, H, I2, r2, q⟩
    | some w =>
      have hm2 : ut = [] ∨ ∃ x, ut = [x] := by
        have := rt.length
        match ut, this with
        | [], _ => exact .inl rfl
        | [x], _ => exact .inr ⟨x, rfl⟩
        | _ :: _ :: _, h3 => simp at h3; omega
      rw [← hw] at q1
      exact dt_pop hm2 (by omega) I N ki e fun u s2 I2 D2 r2 => ⟨w, _, I2, r2, q1 w e D2⟩
theorem mt_tget (hk : X.K = L.F) (hw : X.w = L.w) (hu : X.A.units + 65 < cLine) : MtR X "dict.get" (rTGet L) := by
  intro pins s σ H x vs v us Q I rx rs h
  obtain ⟨a, kvs, xs, ks, y, z, rfl, rfl, D, rk, hs, q⟩ := h
  obtain rfl : v = Value.ref a := rx
  obtain ⟨b, rfl⟩ := rk.tup_ref
  obtain ⟨u1, u2, rfl, r1, r2⟩ := rs.two
  obtain rfl : u1 = Value.ref b := r1
  exact dt_get2 (by omega) I (D.now hk hw I) (keyT_is hk I hs rk) r2 fun w2 s2 I2 r3 => ⟨_, H, I2, r3, q⟩
end
def rTSetd (L : Lk) : RM := fun x vs H Q => ∃ a kvs xs ks b z, x = V.ref a ∧ vs = [.ref b, z] ∧ DtV L H a kvs xs ∧ xs.length < sizeLine ∧ Rp L.F H (.tup ks) (.ref b) ∧ D.keyds 7 ks = true ∧
  (∀ v, getX xs (nkT ks) = some v → Q v H) ∧ (getX xs (nkT ks) = none → DtAt L.w (upd H a (DtO L.w a (putX xs (nkT ks) b z))) a (putX xs (nkT ks) b z) → Q z (upd H a (DtO L.w a (putX xs (nkT ks) b z))))
theorem mt_tsetd {X : Cx} {L : Lk} (hk : X.K = L.F) (hw : X.w = L.w) (hu : X.A.units + 65 < cLine) : MtR X "dict.setdefault" (rTSetd L) := by
  intro pins s σ H x vs v us Q I rx rs h
  obtain ⟨a, kvs, xs, ks, b, z, rfl, rfl, D, hl, rk, hs, q1, q2⟩ := h
  obtain rfl : v = Value.ref a := rx
  obtain ⟨u1, u2, rfl, r1, r2⟩ := rs.two
  obtain rfl : u1 = Value.ref b := r1
  rw [← hw] at q2
  exact dt_setd (by omega) I (D.now hk hw I) (keyT_is hk I hs rk) hl r2 (fun v hv w2 s2 I2 r3 => ⟨v, H, I2, r3, q1 v hv⟩) fun hn s2 I2 D2 => ⟨z, _, I2, r2, q2 hn D2⟩
/-- list.count of truths -/
def rCntB (K : PySem.W.Frag) : RM := fun x xs H Q => ∃ (a : Addr) (bs : List Bool) (k : Bool), x = .ref a ∧ xs = [.bl k] ∧ SqL K H a (bs.map V.bl) ∧ Q (.int (bs.count k : Nat)) H
theorem cnt_bls {k : Bool} : ∀ {bs : List Bool} {us : List Value}, Vals (bs.map V.bl) us → us.countP (eqU (.bl k)) = bs.count k
  | [], _, h => by cases h; rfl
  | b :: bs, _, h => by
    cases h with
    | cons r rr =>
      rw [List.countP_cons, List.count_cons, cnt_bls rr, eqU_of r rfl]
      have e : eqV (.bl b) (.bl k) = (b == k) := by cases b <;> cases k <;> rfl
      rw [e]
theorem mt_lcountB {X : Cx} : MtR X "list.count" (rCntB X.K) := by
  intro pins s σ H x xs v us Q I rx rxs h
  obtain ⟨a, bs, k, rfl, rfl, hs, q⟩ := h
  cases rx
  obtain ⟨u, rfl, ru⟩ := rxs.one
  obtain ⟨its, rv, ⟨⟨oc, od, data, sl⟩, n, ho, hc, hdn, hd⟩, hlen⟩ := I.list hs
  simp only at hc hd
  subst hc hd
  have fys : (bs.map V.bl).all flatV = true := by simp [flatV]
  refine call_meets PySem.F.slot_list_count ⟨_, ho, rfl⟩ PySem.F.entry_list_count
    (PySem.F.args_list_count_2 _ _)
    (SeqAt.list_countAt a its.toArray n od sl u (eqU (.bl k)))
    ⟨ho, fun w hw => mem_eqAt ru rfl rv fys w (by simpa using hw), ?_⟩
  have ec : its.toArray.toList.countP (eqU (.bl k)) = bs.count k := by simpa using cnt_bls rv
  refine ⟨.int (bs.count k : Nat), H, I.tok _, ⟨s.toks, ?_⟩, q⟩
  show Value.int ((its.toArray.toList.countP (eqU (.bl k)) : Nat) : Int) s.toks = Value.int ((bs.count k : Nat) : Int) s.toks
  rw [ec]
def bmR0 (F : PySem.W.Frag) : Bm → Nat → RM
  | .append, _ => rAppend
  | .extend, _ => rExtend
  | .pop, 1 => fun x xs H Q => rPop x xs H Q ∨ rPopAt x xs H Q
  | .pop, _ => rDPop
  | .insert, _ => fun x vs H Q => ∃ (l : Addr) (xs : List V) (i : Int) (y : V), x = .ref l ∧ vs = [.int i, y] ∧ H l = some (.lst xs) ∧ xs.length < sizeLine ∧ 0 ≤ i ∧ i < 2 ^ 63 ∧ Q .non (upd H l (.lst (xs.take i.toNat ++ [y] ++ xs.drop i.toNat)))
  | .reverse, _ => rReverse
  | .clear, _ => rClear
  | .index, _ => rIndexD F
  | .count, _ => rCntB F
  | .get, _ => rDGet
  | .join, _ => fun x xs H Q => ∃ a p, ∃ ys : List Str, x = .str a ∧ xs = [.ref p] ∧ (SqL F H p (ys.map V.str) ∨ SqT F H p (ys.map V.str)) ∧ (ys.map (·.length)).sum + ys.length * a.length ≤ 16777216 ∧ Q (.str (Txt.join a ys)) H
  | .upper, _ => fun x xs H Q => ∃ a, x = .str a ∧ xs = [] ∧ a.length ≤ 5592405 ∧ Q (.str (Txt.upper a)) H
  | .partition, _ => rPartZ
  | .split, _ => fun x xs H Q => ∃ a b, x = .str a ∧ xs = [.str b] ∧ (b.length == 0) = false ∧ a.length + 2 ≤ sizeLine ∧ rNewStrs (Txt.split a b) H Q
  | .startswith, _ => fun x xs H Q => ∃ a b, x = .str a ∧ xs = [.str b] ∧ Q (.bl (Txt.startswith a b)) H
  | _, _ => fun _ _ _ _ => False
def bmR (L : Lk) : Bm → Nat → RM
  | .pop, 1 => bmR0 L.F .pop 1
  | .pop, k => fun x xs H Q => bmR0 L.F .pop k x xs H Q ∨ rDPop1 x xs H Q ∨ rTPop L x xs H Q
  | .get, k => fun x xs H Q => bmR0 L.F .get k x xs H Q ∨ rTGet L x xs H Q
  | .setdefault, _ => rTSetd L
  | f, k => bmR0 L.F f k
theorem bmS {X : Cx} {L : Lk} (hk : X.K = L.F) (hw : X.w = L.w) (hu : X.A.units + 65 < cLine) {f : Bm} {k : Nat} (h : mok f k = true) : MthOk X (bmT k) (bmN f) (bmId f k) (bmR L f k) := by
  unfold mok at h
  split at h
  · exact ⟨PySem.F.plainAttrs_list, PySem.F.slot_list_append, PySem.F.type_list_append, mt_append⟩
  · exact ⟨PySem.F.plainAttrs_list, PySem.F.slot_list_extend, PySem.F.type_list_extend, mt_extend⟩
  · exact ⟨PySem.F.plainAttrs_list, PySem.F.slot_list_pop, PySem.F.type_list_pop, MtR.or mt_pop mt_popAt⟩
  · exact ⟨PySem.F.plainAttrs_dict, PySem.F.slot_dict_pop, PySem.F.type_dict_pop, MtR.or mt_dpop (MtR.or mt_dpop1 (mt_tpop hk hw hu))⟩
  · exact ⟨PySem.F.plainAttrs_list, PySem.F.slot_list_insert, PySem.F.type_list_insert, mt_insert⟩
  · exact ⟨PySem.F.plainAttrs_list, PySem.F.slot_list_index, PySem.F.type_list_index, (by have z := mt_indexD hu; rw [hk] at z; exact z)⟩
  · exact ⟨PySem.F.plainAttrs_list, PySem.F.slot_list_count, PySem.F.type_list_count, (by have z := mt_lcountB (X := X); rw [hk] at z; exact z)⟩
  · exact ⟨PySem.F.plainAttrs_list, PySem.F.slot_list_reverse, PySem.F.type_list_reverse, mt_reverse⟩
  · exact ⟨PySem.F.plainAttrs_list, PySem.F.slot_list_clear, PySem.F.type_list_clear, mt_clear⟩
  · exact ⟨PySem.F.plainAttrs_dict, PySem.F.slot_dict_get, PySem.F.type_dict_get, MtR.or (mt_dget (by omega)) (mt_tget hk hw hu)⟩
  · exact ⟨PySem.F.plainAttrs_str, PySem.F.slot_str_join, PySem.F.type_str_join, (by have z := mt_join (X := X); rw [hk] at z; exact z)⟩
  · exact ⟨PySem.F.plainAttrs_dict, PySem.F.slot_dict_setdefault, PySem.F.type_dict_setdefault, mt_tsetd hk hw hu⟩
  · exact ⟨PySem.F.plainAttrs_str, PySem.F.slot_str_upper, PySem.F.type_str_upper, mt_upper⟩
  · exact ⟨PySem.F.plainAttrs_str, PySem.F.slot_str_partition, PySem.F.type_str_partition, mt_partZ⟩
  · exact ⟨PySem.F.plainAttrs_str, PySem.F.slot_str_split, PySem.F.type_str_split, mt_split⟩
  · exact ⟨PySem.F.plainAttrs_str, PySem.F.slot_str_startswith, PySem.F.type_str_startswith, mt_startswith⟩
  · cases h
section
variable {L : Lk} {m : Hm} {H : Hp} {P : PD} {Q : VK} {x y : D} {v u : V} {a : Addr} {xs : List D} {vs : List V}
/-- a receiver's type -/
def tyG (L : Lk) (T : String) (x : V) (H : Hp) : Prop := tyV L.F T x H ∨ (T = "dict" ∧ ∃ a xs, x = .ref a ∧ DtAt L.w H a xs)
theorem rk_ty {f : Bm} {k : Nat} (h : mok f k = true) (e : rk m x = k) (rx : Rp L.F H x v) (rel : Rel L m H) : tyG L (bmT k) v H := by
  cases rx with
  | str s =>
    have e2 : k = 3 := by rw [← e]; rfl
    subst e2; exact .inl rfl
  | @lst ds a ws sq rs =>
    have e2 : k = 1 := by rw [← e]; rfl
    subst e2; exact .inl (.inl ⟨rfl, ws, sq.sq⟩)
  | ref a =>
    simp only [rk] at e
    split at e
    · rename_i ds e2
      subst e
      obtain ⟨ws, h1, h2⟩ := rel _ _ e2
      exact .inl (.inl ⟨rfl, ws, SqL.of h1⟩)
    · rename_i ds e2
      subst e
      obtain ⟨ws, h1, h2⟩ := rel _ _ e2
      exact .inl (.inr (.inr (.inl ⟨rfl, .inl ⟨ws, h1⟩⟩)))
    · rename_i ds e2
      subst e
      obtain ⟨ws, h1, h2⟩ := rel _ _ e2
      exact .inr ⟨rfl, a, ws, rfl, h1⟩
    · subst e; simp [mok] at h
  | _ => (have e2 : k = 0 := by rw [← e]; rfl); subst e2; simp [mok] at h
theorem seqIx {n : Nat} {i : Int} {k : Nat} (h : Mn.ixN n i = some k) : seqIndex? i n = some k := (ixN_seq (n := n) (i := i) (j := k) h).1
theorem joinT_eq (sep : List Nat) : ∀ ss : List (List Nat), joinT sep ss = joinL sep ss
  | [] => rfl
  | [_] => rfl
  | x :: y :: r => by
    show x ++ (sep ++ joinT sep (y :: r)) = x ++ (sep ++ joinL sep (y :: r))
    rw [joinT_eq sep (y :: r)]
theorem fstIx_ok {x : D} : ∀ {ds : List D} {k j : Nat}, fstIx x ds k = some j → k ≤ j ∧ (∃ z, ds[j - k]? = some z ∧ D.eqv z x = true) ∧ ∀ i z, i < j - k → ds[i]? = some z → D.eqv z x = false
  | [], k, j, h => by simp [fstIx] at h
  | d :: ds, k, j, h => by
    simp only [fstIx] at h
    split at h
    · rename_i e
      cases h
      exact ⟨Nat.le_refl _, ⟨d, by simp, e⟩, fun i z hi _ => by omega⟩
    · rename_i e
      obtain ⟨h1, ⟨z, h2, h3⟩, h4⟩ := fstIx_ok h
      refine ⟨by omega, ⟨z, ?_, h3⟩, fun i w hi hw => ?_⟩
      · rw [show j - k = (j - (k + 1)) + 1 by omega, List.getElem?_cons_succ]
        exact h2
      · cases i with
        | zero =>
          rw [List.getElem?_cons_zero] at hw
          cases hw
          exact Bool.eq_false_iff.mpr e
        | succ i => exact h4 i w (by omega) (by rw [List.getElem?_cons_succ] at hw; exact hw)
theorem toPs_get : ∀ {ds : List D} {i : Nat} {z : PyData}, (toPs ds)[i]? = some z → ∃ d, ds[i]? = some d ∧ z = toP d
  | [], i, z, h => by simp [toPs] at h
  | d :: ds, 0, z, h => by simp [toPs] at h; exact ⟨d, rfl, h.symm⟩
  | d :: ds, i + 1, z, h => by
    simp only [toPs, List.getElem?_cons_succ] at h
    obtain ⟨e, h1, h2⟩ := toPs_get h
    exact ⟨e, by rw [List.getElem?_cons_succ]; exact h1, h2⟩
theorem toPs_at : ∀ {ds : List D} {i : Nat} {d : D}, ds[i]? = some d → (toPs ds)[i]? = some (toP d)
  | [], i, z, h => by simp at h
  | d :: ds, 0, z, h => by simp at h; simp [toPs, h]
  | d :: ds, i + 1, z, h => by
    simp only [toPs, List.getElem?_cons_succ] at h ⊢
    exact toPs_at h
theorem shps_get : ∀ {n : Nat} {ds : List D} {i : Nat} {d : D}, D.shps n ds = true → ds[i]? = some d → D.shp n d = true
  | _, [], i, d, _, h => by simp at h
  | _, e :: ds, 0, d, hs, h => by
    simp only [D.shps, Bool.and_eq_true] at hs
    simp at h; rw [← h]; exact hs.1
  | _, e :: ds, i + 1, d, hs, h => by
    simp only [D.shps, Bool.and_eq_true] at hs
    exact shps_get hs.2 (by simpa using h)
theorem bm_ok {f : Bm} {k : Nat} (hk : rk m x = k) (h : bmW f x xs m P) (rx : Rp L.F H x v) (rs : Rps L.F H xs vs) (rel : Rel L m H) (q : Kt L H P Q) : bmR L f k v vs H Q := by
  subst hk
  cases rx with
  | ref a =>
    cases f with
    | append =>
      cases rs with
      | @cons d w ds ws r1 rt => cases rt with
        | nil =>
          simp only [bmW] at h
          split at h
          · rename_i es e
            obtain ⟨us, k1, k2, k3⟩ := lst_of e rel
            have kp := Kp.over (o := HO.lst (us ++ [w])) k3 trivial
            exact ⟨a, us, w, rfl, rfl, k3, by rw [← k2.length]; exact SZ_lt h.1, q _ _ _ _ h.2 .non (rel.lst k3 (k2.append (.cons r1 .nil))) kp⟩
          · exact h.elim
        | cons _ _ => exact h.elim
      | nil => exact h.elim
    | extend =>
      cases rs with
      | @cons d w ds ws r1 rt => cases rt with
        | nil => cases r1 with
          | ref b =>
            simp only [bmW] at h
            split at h
            · rename_i xs1 ys1 e1 e2
              obtain ⟨us, k1, k2, k3⟩ := lst_of e1 rel
              obtain ⟨ws, l1, l2, l3⟩ := lst_of e2 rel
              have kp := Kp.over (o := HO.lst (us ++ ws)) k3 trivial
              exact ⟨a, b, us, ws, rfl, rfl, k3, l3, by rw [← k2.length, ← l2.length]; exact SZ_line h.1, q _ _ _ _ h.2 .non (rel.lst k3 (k2.append l2)) kp⟩
            · exact h.elim
          | _ => exact h.elim
        | cons _ _ => first | exact h.elim | (simp [bmW] at h)
      | nil => exact h.elim
    | pop =>
      cases rs with
      | nil =>
        simp only [bmW] at h
        split at h
        · rename_i es e
          obtain ⟨d, h1, h2⟩ := h
          obtain ⟨us, k1, k2, k3⟩ := lst_of e rel
          obtain ⟨w, w1, w2⟩ := k2.get h1
          have e3 : rk m (.ref a) = 1 := by simp only [rk, e]
          rw [e3]
          have kp := Kp.over (o := HO.lst us.dropLast) k3 trivial
          exact .inl ⟨a, us, w, rfl, rfl, k3, by rw [← k2.length]; exact w1, q _ _ _ _ h2 (w2.mono kp) (rel.lst k3 k2.dropLast) kp⟩
        · exact h.elim
      | @cons d w ds ws r1 rt => cases rt with
        | nil =>
          simp only [bmW] at h
          split at h
          · rename_i es e
            have e3 : rk m (.ref a) = 1 := by simp only [rk, e]
            rw [e3]
            cases r1 with
            | int i =>
              obtain ⟨⟨b1, b2⟩, j, d, h1, h2, h3⟩ := h
              obtain ⟨us, k1, k2, k3⟩ := lst_of e rel
              obtain ⟨w, w1, w2⟩ := k2.get h2
              have kp := Kp.over (o := HO.lst (us.eraseIdx j)) k3 trivial
              exact .inr ⟨a, us, i, j, w, rfl, rfl, k3, b1, b2, by rw [← k2.length]; exact seqIx h1, w1, q _ _ _ _ h3 (w2.mono kp) (rel.lst k3 (k2.eraseIdx j)) kp⟩
            | _ => exact h.elim
          · rename_i kvs e
            obtain ⟨j, d2, e2, e4, h3⟩ := h
            obtain ⟨kws, k1, k2⟩ := rel _ _ e
            have e3 : rk m (.ref a) = 2 := by simp only [rk, e]
            rw [e3]
            have e5 := ky_rp e2 r1
            subst e5
            have kp := Kp.over (o := HO.dK (dropK kws (kyV j))) k1 trivial
            rcases k2.look (fun _ _ z => kyV_inj z) (k := j) with ⟨z1, z2⟩ | ⟨d3, z, z1, z2, z3⟩
            · rw [z1] at e4; cases e4
            · rw [z1] at e4
              cases e4
              exact .inr (.inl ⟨a, kws, kyV j, z, rfl, rfl, k1, z2, q _ _ _ _ h3 (z3.mono kp) (rel.put kp ⟨_, upd_same, (KvR.drop (fun _ _ z => kyV_inj z) (k := j) k2).mono kp⟩) kp⟩)
          · rename_i kvs e
            have e3 : rk m (.ref a) = 2 := by simp only [rk, e]
            rw [e3]
            split at h
            · rename_i ks
              obtain ⟨hs, d2, e4, h3⟩ := h
              obtain ⟨xs, k1, k2⟩ := rel _ _ e
              refine .inr (.inr ⟨a, kvs, xs, ks, w, [], rfl, rfl, Nat.zero_le _, .inl ⟨k1, k2⟩, r1, hs, fun v hv D => ?_, fun hv => ?_⟩)
              · have kp := Kp.over (o := DtO L.w a (dropX xs (nkT ks))) k1.on trivial
                rcases lookT hs k2 with ⟨z1, z2⟩ | ⟨d3, z, z1, z2, z3⟩
                · rw [z2] at hv; cases hv
                · rw [z2] at hv
                  cases hv
                  rw [z1] at e4
                  cases e4
                  exact q _ _ _ _ h3 (z3.mono kp) (rel.put kp ⟨_, D, (dropT hs k2).mono kp⟩) kp
              · rcases lookT hs k2 with ⟨z1, z2⟩ | ⟨d3, z, z1, z2, z3⟩
                · rw [z1] at e4; cases e4
                · rw [z2] at hv; cases hv
            · exact h.elim
          · exact h.elim
        | @cons z w2 ds ws r2 rt => cases rt with
          | nil =>
            simp only [bmW] at h
            split at h
            · rename_i kvs e1
              obtain ⟨kws, k1, k2⟩ := rel _ _ e1
              have e3 : rk m (.ref a) = 2 := by simp only [rk, e1]
              rw [e3]
              split at h
              · rename_i j e2
                have e4 := ky_rp e2 r1
                subst e4
                have kp := Kp.over (o := HO.dK (dropK kws (kyV j))) k1 trivial
                refine .inl ⟨a, kws, kyV j, w2, rfl, rfl, k1, fun v hv => ?_, fun hv => ?_⟩
                · rcases k2.look (fun _ _ z => kyV_inj z) (k := j) with ⟨z1, z2⟩ | ⟨d, z, z1, z2, z3⟩
                  · rw [z2] at hv; cases hv
                  · rw [z2] at hv
                    cases hv
                    rw [z1] at h
                    exact q _ _ _ _ h (z3.mono kp) (rel.put kp ⟨_, upd_same, (KvR.drop (fun _ _ z => kyV_inj z) (k := j) k2).mono kp⟩) kp
                · rcases k2.look (fun _ _ z => kyV_inj z) (k := j) with ⟨z1, z2⟩ | ⟨d, z, z1, z2, z3⟩
                  · rw [z1] at h
                    exact q.here h r2 rel
                  · rw [z2] at hv; cases hv
              · split at h
                · rename_i ks e2
                  obtain ⟨e4, hs, h3⟩ := h
                  subst e4
                  cases k2
                  refine .inr (.inr ⟨a, [], [], ks, w, [w2], rfl, rfl, Nat.le_refl _, .inr ⟨k1, rfl, rfl⟩, r1, hs, fun v hv => ?_, fun hv => ⟨w2, rfl, q.here h3 r2 rel⟩⟩)
                  cases hv
                · exact h.elim
            · rename_i kvs e
              have e3 : rk m (.ref a) = 2 := by simp only [rk, e]
              rw [e3]
              split at h
              · rename_i ks
                obtain ⟨hs, h3⟩ := h
                obtain ⟨xs, k1, k2⟩ := rel _ _ e
                refine .inr (.inr ⟨a, kvs, xs, ks, w, [w2], rfl, rfl, Nat.le_refl _, .inl ⟨k1, k2⟩, r1, hs, fun v hv D => ?_, fun hv => ⟨w2, rfl, ?_⟩⟩)
                · have kp := Kp.over (o := DtO L.w a (dropX xs (nkT ks))) k1.on trivial
                  rcases lookT hs k2 with ⟨z1, z2⟩ | ⟨d3, z, z1, z2, z3⟩
                  · rw [z2] at hv; cases hv
                  · rw [z2] at hv
                    cases hv
                    rw [z1] at h3
                    exact q _ _ _ _ h3 (z3.mono kp) (rel.put kp ⟨_, D, (dropT hs k2).mono kp⟩) kp
                · rcases lookT hs k2 with ⟨z1, z2⟩ | ⟨d3, z, z1, z2, z3⟩
                  · rw [z1] at h3
                    exact q.here h3 r2 rel
                  · rw [z2] at hv; cases hv
              · exact h.elim
            · exact h.elim
          | cons _ _ => first | exact h.elim | (simp [bmW] at h)
    | insert =>
      cases rs with
      | nil => exact h.elim
      | @cons d w ds ws r1 rt => cases rt with
        | nil => cases r1 <;> first | exact h.elim | (simp [bmW] at h)
        | @cons z w2 ds ws r2 rt => cases rt with
          | nil => cases r1 with
            | int i =>
              simp only [bmW] at h
              split at h
              · rename_i es e
                obtain ⟨h1, ⟨b1, b2⟩, h3⟩ := h
                obtain ⟨us, k1, k2, k3⟩ := lst_of e rel
                have kp := Kp.over (o := HO.lst (us.take i.toNat ++ [w2] ++ us.drop i.toNat)) k3 trivial
                exact ⟨a, us, i, w2, rfl, rfl, k3, by rw [← k2.length]; exact SZ_lt h1, b1, b2, q _ _ _ _ h3 .non (rel.lst k3 (((k2.take _).append (.cons r2 .nil)).append (k2.drop _))) kp⟩
              · exact h.elim
            | _ => exact h.elim
          | cons _ _ => cases r1 <;> first | exact h.elim | (simp [bmW] at h)
    | reverse =>
      cases rs with
      | nil =>
        simp only [bmW] at h
        split at h
        · rename_i es e
          obtain ⟨us, k1, k2, k3⟩ := lst_of e rel
          have kp := Kp.over (o := HO.lst us.reverse) k3 trivial
          exact ⟨a, us, rfl, rfl, k3, q _ _ _ _ h .non (rel.lst k3 k2.reverse) kp⟩
        · exact h.elim
      | cons _ _ => exact h.elim
    | clear =>
      cases rs with
      | nil =>
        simp only [bmW] at h
        split at h
        · rename_i es e
          obtain ⟨us, k1, k2, k3⟩ := lst_of e rel
          have kp := Kp.over (o := HO.lst []) k3 trivial
          exact ⟨a, us, rfl, rfl, k3, q _ _ _ _ h .non (rel.lst k3 .nil) kp⟩
        · exact h.elim
      | cons _ _ => exact h.elim
    | index =>
      cases rs with
      | nil => exact h.elim
      | @cons d w ds ws r1 rt => cases rt with
        | nil =>
          simp only [bmW] at h
          split at h
          · rename_i es e
            obtain ⟨x2, ds2, j, t1, t2, t3, t4, t5, t6⟩ := h
            obtain ⟨us, k1, k2, k3⟩ := lst_of e rel
            obtain ⟨f1, ⟨z, f2, f3⟩, f4⟩ := fstIx_ok t5
            refine ⟨a, w, toP x2, toPs ds2, j, toP z, rfl, rfl, .lst k1 (t2.dp rel k2), t1.dp rel r1, shps_ok t4, shp_ok t3, toPs_at f2, ?_, fun i z2 hi hz => ?_, q.here t6 (.int _) rel⟩
            · rw [eqv_ok _ _ (shps_get t4 f2) t3]; exact f3
            · obtain ⟨d2, g1, rfl⟩ := toPs_get hz
              rw [eqv_ok _ _ (shps_get t4 g1) t3]
              exact f4 i d2 (by simpa using hi) g1
          · exact h.elim
        | cons _ _ => exact h.elim
    | count =>
      cases rs with
      | nil => exact h.elim
      | @cons d w ds ws r1 rt => cases rt with
        | nil =>
          cases r1 with
          | bl k =>
            simp only [bmW] at h
            split at h
            · rename_i es e
              obtain ⟨bs, t1, t2⟩ := h
              obtain ⟨us, k1, k2, k3⟩ := lst_of e rel
              exact ⟨a, bs, k, rfl, rfl, by rw [← k2.bls t1]; exact k1, q.here t2 (.int _) rel⟩
            · exact h.elim
          | _ => exact h.elim
        | cons _ _ => cases r1 <;> exact h.elim
    | setdefault =>
      cases rs with
      | nil => exact h.elim
      | @cons d w ds ws r1 rt => cases rt with
        | nil => cases d <;> exact h.elim
        | @cons z w2 ds ws r2 rt => cases rt with
          | cons _ _ => cases d <;> exact h.elim
          | nil =>
            cases d with
            | tup ks =>
              obtain ⟨b, rfl⟩ := r1.tup_ref
              simp only [bmW] at h
              show rTSetd L _ _ _ _
              split at h
              · rename_i kvs e
                obtain ⟨e4, hs, h3⟩ := h
                subst e4
                obtain ⟨kws, k1, k2⟩ := rel _ _ e
                cases k2
                refine ⟨a, [], [], ks, b, w2, rfl, rfl, .inr ⟨k1, rfl, rfl⟩, by rw [sizeLine_eq]; decide, r1, hs, fun v hv => absurd hv (by simp [getX]), fun _ D => ?_⟩
                have kp := Kp.over (o := DtO L.w a (putX [] (nkT ks) b w2)) k1 trivial
                exact q _ _ _ _ h3 (r2.mono kp) (rel.put kp ⟨_, D, (putT (kvs := []) (xs := []) hs r1 r2 .nil).mono kp⟩) kp
              · rename_i kvs e
                obtain ⟨hs, hl, h3⟩ := h
                obtain ⟨xs, k1, k2⟩ := rel _ _ e
                refine ⟨a, kvs, xs, ks, b, w2, rfl, rfl, .inl ⟨k1, k2⟩, by rw [← k2.len]; exact SZ_lt hl, r1, hs, fun v hv => ?_, fun hn D => ?_⟩
                · rcases lookT hs k2 with ⟨z1, z2⟩ | ⟨d3, z, z1, z2, z3⟩
                  · rw [z2] at hv; cases hv
                  · rw [z2] at hv
                    cases hv
                    rw [z1] at h3
                    exact q.here h3 z3 rel
                · rcases lookT hs k2 with ⟨z1, z2⟩ | ⟨d3, z, z1, z2, z3⟩
                  · rw [z1] at h3
                    have kp := Kp.over (o := DtO L.w a (putX xs (nkT ks) b w2)) k1.on trivial
                    exact q _ _ _ _ h3 (r2.mono kp) (rel.put kp ⟨_, D, (putT hs r1 r2 k2).mono kp⟩) kp
                  · rw [z2] at hn; cases hn
              · exact h.elim
            | _ => exact h.elim
    | get =>
      cases rs with
      | nil => exact h.elim
      | @cons d w ds ws r1 rt => cases rt with
        | nil => exact h.elim
        | @cons z w2 ds ws r2 rt => cases rt with
          | nil =>
            obtain ⟨o, h1, h2⟩ := h
            rcases dget_ok h1 r1 rel with ⟨t, g, hw⟩ | ⟨ks, kvs, xs, e1, e2, e3, e4⟩
            · refine .inl ⟨a, w, w2, t, rfl, rfl, g, ?_⟩
              rcases hw with ⟨e1, e2⟩ | ⟨d3, z3, e1, e2, e3⟩
              · subst e1 e2; exact q.here h2 r2 rel
              · subst e1 e2; exact q.here h2 e3 rel
            · subst e1
              refine .inr ⟨a, kvs, xs, ks, w, w2, rfl, rfl, e3, r1, e2, ?_⟩
              rcases lookT e2 e3.r with ⟨g1, g2⟩ | ⟨d3, z3, g1, g2, g3⟩
              · rw [g2]; rw [e4, g1] at h2; exact q.here h2 r2 rel
              · rw [g2]; rw [e4, g1] at h2; exact q.here h2 g3 rel
          | cons _ _ => exact h.elim
    | _ => cases rs <;> first | exact h.elim | (simp [bmW] at h)
  | str s =>
    cases f with
    | join =>
      cases rs with
      | nil => exact h.elim
      | @cons d w ds ws r1 rt => cases rt with
        | nil => cases r1 with
          | ref a =>
            simp only [bmW] at h
            split at h
            · rename_i es e
              obtain ⟨ss, h1, h2, h3⟩ := h
              obtain ⟨us, k1, k2, k3⟩ := lst_of e rel
              have e4 := k2.strs h1
              have e5 : ss.map (fun t => V.str (toS t)) = (ss.map toS).map V.str := by rw [List.map_map]; rfl
              have k1 : SqL L.F H a ((ss.map toS).map V.str) := by rw [← e5, ← e4]; exact k1
              refine ⟨toS s, a, ss.map toS, rfl, rfl, .inl k1, ?_, ?_⟩
              · rw [List.map_map, List.length_map, toS_len, show ((fun x : Str => x.length) ∘ toS) = List.length from funext toS_len]
                exact h2
              · have e6 : Txt.join (toS s) (ss.map toS) = toS (joinT s ss) := by
                  have e7 : tl (Txt.join (toS s) (ss.map toS)) = joinT s ss := by
                    rw [join_eq, tl_join, joinT_eq, List.map_map]
                    have e8 : (tl ∘ toS) = (id : List Nat → List Nat) := funext fun t => toS_list t
                    rw [e8, List.map_id, show tl (toS s) = s from toS_list s]
                  rw [← e7]
                  exact (mk_tl _).symm
                rw [e6]
                exact q.here h3 (.str _) rel
            · exact h.elim
          | _ => exact h.elim
        | cons _ _ => cases r1 <;> first | exact h.elim | (simp [bmW] at h)
    | upper =>
      cases rs with
      | nil =>
        have h2 : (s.all (· < 128) = true ∧ s.length ≤ 5592405) ∧ P (.str (s.map upC)) m := h
        refine ⟨_, rfl, rfl, by rw [toS_len]; exact h2.1.2, ?_⟩
        rw [upper_toS h2.1.1]
        exact q.here h2.2 (.str _) rel
      | cons _ _ => exact h.elim
    | partition =>
      cases rs with
      | nil => exact h.elim
      | @cons d w ds ws r1 rt => cases rt with
        | nil => cases r1 with
          | str t =>
            have h2 : (t ≠ [] ∧ s.length ≤ SZ) ∧ P (.tup (par3 s t)) m := h
            refine ⟨_, _, rfl, rfl, ?_, by rw [toS_len]; exact SZ_line h2.1.2, ?_⟩
            · rw [toS_len]
              exact beq_false_of_ne fun z => h2.1.1 (List.length_eq_zero_iff.mp z)
            · have e := par_toS s t h2.1.1
              rw [← e] at h2
              refine q.tup h2.2 (.cons ?_ (.cons ?_ (.cons ?_ .nil))) rel
              · have := Rp.str (F := L.F) (H := H) (Txt.partition (toS s) (toS t)).1.cps.toList
                rwa [show toS (Txt.partition (toS s) (toS t)).1.cps.toList = (Txt.partition (toS s) (toS t)).1 from mk_tl _] at this
              · have := Rp.str (F := L.F) (H := H) (Txt.partition (toS s) (toS t)).2.1.cps.toList
                rwa [show toS (Txt.partition (toS s) (toS t)).2.1.cps.toList = (Txt.partition (toS s) (toS t)).2.1 from mk_tl _] at this
              · have := Rp.str (F := L.F) (H := H) (Txt.partition (toS s) (toS t)).2.2.cps.toList
                rwa [show toS (Txt.partition (toS s) (toS t)).2.2.cps.toList = (Txt.partition (toS s) (toS t)).2.2 from mk_tl _] at this
          | _ => exact h.elim
        | cons _ _ => cases r1 <;> first | exact h.elim | (simp [bmW] at h)
    | split =>
      cases rs with
      | nil => exact h.elim
      | @cons d w ds ws r1 rt => cases rt with
        | nil => cases r1 with
          | str t =>
            have h2 : (t ≠ [] ∧ t.all (· < 256) = true ∧ s.length + 2 ≤ SZ) ∧ newO m (.lst ((splT t 0 [] s).map .str)) P := h
            obtain ⟨⟨h3, h4, h5⟩, h6⟩ := h2
            refine ⟨_, _, rfl, rfl, ?_, by rw [toS_len]; exact SZ_line h5, fun p hp => ?_⟩
            · rw [toS_len]
              exact beq_false_of_ne fun z => h3 (List.length_eq_zero_iff.mp z)
            · rw [← split_toS s t h3 h4] at h6
              refine q.lst h6 ?_ rel hp
              have := strs_rp (F := L.F) (H := H) ((Txt.split (toS s) (toS t)).map tl)
              have e9 : ((Txt.split (toS s) (toS t)).map tl).map toS = Txt.split (toS s) (toS t) := by
                rw [List.map_map, show (toS ∘ tl) = id from funext fun x => mk_tl x, List.map_id]
              rwa [e9] at this
          | _ => exact h.elim
        | cons _ _ => cases r1 <;> first | exact h.elim | (simp [bmW] at h)
    | startswith =>
      cases rs with
      | nil => exact h.elim
      | @cons d w ds ws r1 rt => cases rt with
        | nil => cases r1 with
          | str t => exact ⟨_, _, rfl, rfl, by rw [starts_toS]; exact q.here h (.bl _) rel⟩
          | _ => exact h.elim
        | cons _ _ => cases r1 <;> first | exact h.elim | (simp [bmW] at h)
    | _ => cases rs <;> first | exact h.elim | (simp [bmW] at h)
  | _ => cases f <;> first | exact h.elim | (simp [bmW] at h)
end
def rDSet : V → V → V → Hp → (Hp → Prop) → Prop := fun o i v H Q => ∃ a H2, o = V.ref a ∧ DPut H a i v H2 ∧ Q H2
def rTSet (L : Lk) : V → V → V → Hp → (Hp → Prop) → Prop := fun o y v H Q => ∃ a kvs xs ks b, o = V.ref a ∧ y = V.ref b ∧ DtV L H a kvs xs ∧ Rp L.F H (.tup ks) y ∧ D.keyds 7 ks = true ∧ xs.length < sizeLine ∧
  (DtAt L.w (upd H a (DtO L.w a (putX xs (nkT ks) b v))) a (putX xs (nkT ks) b v) → Q (upd H a (DtO L.w a (putX xs (nkT ks) b v))))
def setR (L : Lk) : V → V → V → Hp → (Hp → Prop) → Prop := fun o i v H Q => rSetL o i v H Q ∨ rDSet o i v H Q ∨ rTSet L o i v H Q
theorem setS {X : Cx} {L : Lk} (hk : X.K = L.F) (hw : X.w = L.w) (hu : X.A.units + 65 < cLine) : PSet X (setR L) := by
  intro pins s σ H o i v ov iv u Q I ro ri rv h
  rcases h with h | ⟨a, H2, rfl, g, q⟩ | ⟨a, kvs, xs, ks, b, rfl, rfl, D, rk, hs, hl, q⟩
  · exact set_list pins s σ H o i v ov iv u Q I ro ri rv h
  · obtain rfl : ov = Value.ref a := ro
    exact d_setItem (by omega) I g ri rv fun s2 I2 => ⟨H2, I2, q⟩
  · obtain rfl : ov = Value.ref a := ro
    obtain rfl : iv = Value.ref b := ri
    rw [← hw] at q
    exact dt_setItem (by omega) I (D.now hk hw I) (keyT_is hk I hs rk) hl rv fun s2 I2 D2 => ⟨_, I2, q D2⟩
section
variable {L : Lk} {m : Hm} {H : Hp} {x y z : D} {v u w : V} {Q : Hm → Prop} {R : Hp → Prop}
theorem set_ok (h : setW x y z m Q) (rx : Rp L.F H x v) (ry : Rp L.F H y u) (rz : Rp L.F H z w) (rel : Rel L m H) (q : ∀ m2 H2, Q m2 → Rel L m2 H2 → Kp H H2 → R H2) : setR L v u w H R := by
  cases rx with
  | ref a =>
    have dic : ∀ {ob : MO}, dput m a y z = some ob → Q (up m a ob) → setR L (.ref a) u w H R := fun {ob} hg hp => by
      rcases dput_ok hg ry rz rel with ⟨H2, h1, h2, h3⟩ | ⟨ks, kvs, xs, e1, e2, e3, e4, e5⟩
      · exact .inr (.inl ⟨a, H2, rfl, h1, q _ _ hp h2 h3⟩)
      · subst e1 e5
        obtain ⟨b, rfl⟩ := ry.tup_ref
        refine .inr (.inr ⟨a, kvs, xs, ks, b, rfl, rfl, e3, ry, e2, e4, fun D => ?_⟩)
        have kp : Kp H (upd H a (DtO L.w a (putX xs (nkT ks) b w))) := by
          rcases e3 with ⟨d, _⟩ | ⟨d, _, _⟩
          · exact Kp.over d.on trivial
          · exact Kp.over d trivial
        exact q _ _ hp (rel.put kp ⟨_, D, (putT e2 ry rz e3.r).mono kp⟩) kp
    cases ry with
    | int i =>
      simp only [setW] at h
      split at h
      · rename_i ds e
        obtain ⟨j, h1, h2⟩ := h
        obtain ⟨us, k1, k2, k3⟩ := lst_of e rel
        refine .inl ⟨a, us, i, j, rfl, rfl, k3, by rw [← k2.length]; exact h1, q _ _ h2 (rel.lst k3 (k2.set rz j)) (.over k3 trivial)⟩
      · rename_i kvs e
        exact dic (ob := .dK (putk kvs (.inl i) z)) (by unfold dput; rw [e]; simp only [h.1, if_true]) h.2
      · exact h.elim
    | _ => obtain ⟨ob, h1, h2⟩ := h; exact dic h1 h2
  | _ => exact h.elim
theorem kit_non : ∀ t, isBt t = true → kitB "NoneType" (tyN t) = some false := by intro t h; cases t <;> first | decide +kernel | cases h
theorem kit_bool : ∀ t, isBt t = true → kitB "bool" (tyN t) = some (match t with | .int => true | .bool => true | _ => false) := by intro t h; cases t <;> first | decide +kernel | cases h
theorem kit_int : ∀ t, isBt t = true → kitB "int" (tyN t) = some (match t with | .int => true | _ => false) := by intro t h; cases t <;> first | decide +kernel | cases h
theorem kit_str : ∀ t, isBt t = true → kitB "str" (tyN t) = some (match t with | .str => true | _ => false) := by intro t h; cases t <;> first | decide +kernel | cases h
theorem kit_tuple : ∀ t, isBt t = true → kitB "tuple" (tyN t) = some (match t with | .tuple => true | _ => false) := by intro t h; cases t <;> first | decide +kernel | cases h
theorem kit_list : ∀ t, isBt t = true → kitB "list" (tyN t) = some (match t with | .list => true | _ => false) := by intro t h; cases t <;> first | decide +kernel | cases h
theorem kit_dict : ∀ t, isBt t = true → kitB "dict" (tyN t) = some (match t with | .dict => true | _ => false) := by intro t h; cases t <;> first | decide +kernel | cases h
theorem ty_ok {t : Ty} {b : Bool} (hb : isBt t = true) (h : tyIs m x t = some b) (rx : Rp L.F H x v) (rel : Rel L m H) : ∃ c, TyX L.F H v c ∧ PySem.W.kitOne L.F c (.type (tyN t)) = some b := by
  cases rx with
  | non => cases h; exact ⟨_, .base .non, kit_ty (kit_non t hb)⟩
  | bl c => cases h; exact ⟨_, .base (.bl c), kit_ty (kit_bool t hb)⟩
  | int i => cases h; exact ⟨_, .base (.int i), kit_ty (kit_int t hb)⟩
  | str s => cases h; exact ⟨_, .base (.str _), kit_ty (kit_str t hb)⟩
  | @tup ds a ws sq rs =>
    cases h
    rcases sq with ⟨o, e, _⟩ | ⟨o, its, n, e1, e2, _⟩
    · exact ⟨_, .fTuple e, kit_ty (kit_tuple t hb)⟩
    · exact ⟨_, .kTuple e1 e2, kit_ty (kit_tuple t hb)⟩
  | @lst ds a ws sq rs =>
    cases h
    rcases sq with ⟨o, e⟩ | ⟨o, its, n, e1, e2, _⟩
    · exact ⟨_, .base (.frz e), kit_ty (kit_list t hb)⟩
    · exact ⟨_, .kList e1 e2, kit_ty (kit_list t hb)⟩
  | ref a =>
    simp only [tyIs] at h
    split at h
    · rename_i ds e
      cases h
      obtain ⟨ws, h1, h2⟩ := rel _ _ e
      exact ⟨_, .base (.lst h1), kit_ty (kit_list t hb)⟩
    · rename_i ds e
      cases h
      obtain ⟨ws, h1, h2⟩ := rel _ _ e
      exact ⟨_, .base (.dK h1), kit_ty (kit_dict t hb)⟩
    · cases h
  | exc a c => cases h
theorem ty_all {t0 : Ty} {b0 : Bool} (h0 : tyIs m x t0 = some b0) (rx : Rp L.F H x v) (rel : Rel L m H) : ∃ c, TyX L.F H v c ∧ ∀ (t : Ty) (b : Bool), isBt t = true → tyIs m x t = some b → PySem.W.kitOne L.F c (.type (tyN t)) = some b := by
  cases rx with
  | non => exact ⟨_, .base .non, fun t b hb h => by cases h; exact kit_ty (kit_non t hb)⟩
  | bl c => exact ⟨_, .base (.bl c), fun t b hb h => by cases h; exact kit_ty (kit_bool t hb)⟩
  | int i => exact ⟨_, .base (.int i), fun t b hb h => by cases h; exact kit_ty (kit_int t hb)⟩
  | str s => exact ⟨_, .base (.str _), fun t b hb h => by cases h; exact kit_ty (kit_str t hb)⟩
  | @tup ds a ws sq rs =>
    rcases sq with ⟨o, e, _⟩ | ⟨o, its, n, e1, e2, _⟩
    · exact ⟨_, .fTuple e, fun t b hb h => by cases h; exact kit_ty (kit_tuple t hb)⟩
    · exact ⟨_, .kTuple e1 e2, fun t b hb h => by cases h; exact kit_ty (kit_tuple t hb)⟩
  | @lst ds a ws sq rs =>
    rcases sq with ⟨o, e⟩ | ⟨o, its, n, e1, e2, _⟩
    · exact ⟨_, .base (.frz e), fun t b hb h => by cases h; exact kit_ty (kit_list t hb)⟩
    · exact ⟨_, .kList e1 e2, fun t b hb h => by cases h; exact kit_ty (kit_list t hb)⟩
  | ref a =>
    simp only [tyIs] at h0
    split at h0
    · rename_i ds e
      obtain ⟨ws, h1, h2⟩ := rel _ _ e
      exact ⟨_, .base (.lst h1), fun t b hb h => by simp only [tyIs, e] at h; cases h; exact kit_ty (kit_list t hb)⟩
    · rename_i ds e
      obtain ⟨ws, h1, h2⟩ := rel _ _ e
      exact ⟨_, .base (.dK h1), fun t b hb h => by simp only [tyIs, e] at h; cases h; exact kit_ty (kit_dict t hb)⟩
    · cases h0
  | exc a c => cases h0
end
end Mn
end

section
set_option Elab.async false
set_option linter.all false
set_option maxRecDepth 100000
set_option maxHeartbeats 4000000
namespace Mn
open PySem PySem.Spec PyProof.Rows L2
def ptp : Expr → Bool | .UnaryOp .Not _ _ => false | .BoolOp .. => false | .IfExp .. => false | .Compare .. => false | _ => true
theorem star_ok {e : Expr} (h : nostar e = true) (es : List Expr) (env : PySem.Env) : starEach (e :: es) env = (false, eval e env) :: starEach es env := by
  cases e <;> first | rfl | cases h
theorem stars_ok : ∀ {es : List Expr}, es.all nostar = true → ∀ (pos : Pos) (env : PySem.Env), (backTo pos (starEach es env)).any (·.1) = false ∧ (backTo pos (starEach es env)).all (fun x => !x.1) = true ∧ (starEach es env).length = es.length
  | [], _, _, _ => ⟨rfl, rfl, rfl⟩
  | e :: es, h, pos, env => by
    rw [List.all_cons, Bool.and_eq_true] at h
    obtain ⟨h1, h2, h3⟩ := stars_ok h.2 pos env
    rw [star_ok h.1]
    refine ⟨?_, ?_, by simp [h3]⟩
    · show (false || (backTo pos (starEach es env)).any (·.1)) = false
      rw [h1]; rfl
    · show (!false && (backTo pos (starEach es env)).all fun x => !x.1) = true
      rw [h2]; rfl
theorem sup_ok {e : Expr} (h : nosup e = true) (m : Str) (env : PySem.Env) : attributeBase e m env (eval e env) = eval e env := by
  cases e with
  | Call f as ks pos =>
    cases f with
    | Name x p =>
      cases as with
      | cons _ _ => rfl
      | nil => cases ks with
        | cons _ _ => rfl
        | nil => cases h
    | _ => rfl
  | _ => rfl
theorem swap_ok {e : Expr} (h : nocomp e = true) (t : Option Expr) (l : Nat) (env : PySem.Env) : swapsWith e t l env = pure false := by
  cases e <;> first | rfl | cases h
theorem swap_oth {e : Expr} (o : Expr) (f : Str) (p : Pos) (l : Nat) (env : PySem.Env) : swapsWith e (some (.Attribute o f p)) l env = pure false := by cases e <;> rfl
theorem swap_sub {e : Expr} (o f : Expr) (p : Pos) (l : Nat) (env : PySem.Env) : swapsWith e (some (.Subscript o f p)) l env = pure false := by cases e <;> rfl
theorem swap_tup {e : Expr} (es : List Expr) (k : Nat) (p : Pos) (l : Nat) (env : PySem.Env) : swapsWith e (some (.Tuple es k p)) l env = pure false := by cases e <;> rfl
theorem fold_ok {e : Expr} (h : noset e = true) (env : PySem.Env) (x : Value) : foldedSetIterable e env x = pure x := by
  cases e <;> first | rfl | cases h
theorem mark_ok {e : Expr} (h : noset e = true) (op : CmpOp) : behindInMarks op e = false := by
  cases e <;> first | rfl | cases h
theorem plain_ix {e : Expr} (h : nosl e = true) : PlainIx e := fun o i => by
  cases e <;> first | rfl | cases h
theorem aug_ok {e : Expr} (h : nosl e = true) (ov iv new : Value) : augStore e ov iv new = (do holding [new, ov, iv] (setItem ov iv new); release [new, ov, iv] []; pure .next) := by
  cases e <;> first | rfl | cases h
theorem ptp_ok {e : Expr} (h : ptp e = true) (env : PySem.Env) (whole : Sem Value) : isTrue e env whole = (do let v ← whole; standAt e.pos; holding [v] (truthy v)) := by
  cases e with
  | UnaryOp op x p => cases op <;> first | rfl | cases h
  | _ => first | rfl | cases h
mutual
theorem same_eq : ∀ {x y : D}, D.same x y = true → x = y
  | .non, y, h => by cases y <;> simp_all [D.same]
  | .bl a, y, h => by cases y <;> simp_all [D.same]
  | .int a, y, h => by cases y <;> simp_all [D.same]
  | .str a, y, h => by cases y <;> simp_all [D.same]
  | .tup a, y, h => by
    cases y with
    | tup b =>
      have e := sames_eq (x := a) (y := b) (by simpa only [D.same] using h)
      rw [e]
    | _ => simp [D.same] at h
  | .lst _, y, h => by simp [D.same] at h
  | .ref _, y, h => by simp [D.same] at h
  | .exc _ _, y, h => by simp [D.same] at h
theorem sames_eq : ∀ {x y : List D}, D.sames x y = true → x = y
  | [], [], _ => rfl
  | [], _ :: _, h => by simp [D.sames] at h
  | _ :: _, [], h => by simp [D.sames] at h
  | a :: x, b :: y, h => by
    simp only [D.sames, Bool.and_eq_true] at h
    rw [same_eq h.1, sames_eq h.2]
end
section
variable (C : Nm) (N : List Str)
def mKs : List Ky → List (Option Expr) → Bool
  | [], l => l.isEmpty
  | k :: ks, l => match l with
    | some p :: ps => (match k, p with
      | .inl i, .Constant (.int j) _ _ => decide (i = j)
      | .inr s, .Constant (.str z) _ _ => decide (z = toS s)
      | _, _ => false) && mKs ks ps
    | _ => false
end
theorem REnv.mono {F : PySem.W.Frag} {H H2 : Hp} {r : Mn.Env} {σ : L2.St} (h : REnv F H r σ) (k : Kp H H2) : REnv F H2 r σ :=
  ⟨h.1, fun i d e => let ⟨v, a, b⟩ := h.2 i d e; ⟨v, a, b.mono k⟩⟩
theorem vget_set : ∀ {r : Mn.Env} {i j : Nat} {o : Option D}, vget (r.set i o) j = if j = i ∧ i < r.length then o else vget r j
  | [], i, j, o => by simp [vget]
  | x :: r, 0, 0, o => by simp [vget]
  | x :: r, 0, j + 1, o => by simp [vget]
  | x :: r, i + 1, 0, o => by simp [vget]
  | x :: r, i + 1, j + 1, o => by
    simp only [List.set_cons_succ, vget, vget_set, List.length_cons]
    by_cases h : j = i ∧ i < r.length
    · rw [if_pos h, if_pos (by omega)]
    · rw [if_neg h, if_neg (by omega)]
theorem vget_get : ∀ {r : Mn.Env} {i : Nat} {d : D}, vget r i = some d ↔ r[i]? = some (some d)
  | [], i, d => by simp [vget]
  | x :: r, 0, d => by simp [vget]
  | x :: r, i + 1, d => by simp only [vget, List.getElem?_cons_succ]; exact vget_get
theorem REnv.set {F : PySem.W.Frag} {H : Hp} {r : Mn.Env} {σ : L2.St} {d : D} {v : V} (h : REnv F H r σ) (i : Nat) (rd : Rp F H d v) : REnv F H (r.set i (some d)) (σ.set i (some v)) := by
  refine ⟨by simp [h.1], fun j e hj => ?_⟩
  rw [vget_set] at hj
  split at hj
  · rename_i c
    cases hj
    obtain ⟨rfl, c2⟩ := c
    exact ⟨v, by rw [List.getElem?_set_self (by rw [← h.1]; exact c2)], rd⟩
  · rename_i c
    obtain ⟨w, h1, h2⟩ := h.2 j e hj
    refine ⟨w, ?_, h2⟩
    have hlt : j < σ.length := (List.getElem?_eq_some_iff.mp h1).1
    rw [List.getElem?_set_ne (fun z => c ⟨z.symm, by rw [h.1, z]; exact hlt⟩)]
    exact h1
theorem REnv.le {F : PySem.W.Frag} {H : Hp} {r r2 : Mn.Env} {σ : L2.St} (h : REnv F H r σ) (l : LeE r2 r) : REnv F H r2 σ :=
  ⟨l.1.trans h.1, fun i d e => h.2 i d (vget_get.mpr (l.2 i d (vget_get.mp e)))⟩
theorem REnv.wipe {F : PySem.W.Frag} {H : Hp} {r : Mn.Env} {σ : L2.St} (h : REnv F H r σ) : ∀ own : List Nat, REnv F H (Mn.wipe r own) (L2.wipe σ own)
  | [] => h
  | v :: vs => by
    have ih := REnv.wipe h vs
    refine ⟨by simp [Mn.wipe, L2.wipe, ih.1], fun j e hj => ?_⟩
    simp only [Mn.wipe] at hj
    rw [vget_set] at hj
    split at hj
    · cases hj
    · rename_i c
      obtain ⟨w, h1, h2⟩ := ih.2 j e hj
      refine ⟨w, ?_, h2⟩
      have hlt : j < (L2.wipe σ vs).length := (List.getElem?_eq_some_iff.mp h1).1
      simp only [L2.wipe]
      rw [List.getElem?_set_ne (fun z => c ⟨z.symm, by rw [ih.1, z]; exact hlt⟩)]
      exact h1
section
variable (exc : Nat → Option Addr) (L : Lk) (W : WX)
def LO (wp : XD → Mn.Env → Hm → (Option Int → Hm → Prop) → Prop) : TO := fun σ H Q => ∃ r m P X, REnv L.F H r σ ∧ Rel L m H ∧ wp X r m P ∧
  (∀ o m2 H2, P o m2 → Rel L m2 H2 → Kp H H2 → Q o H2) ∧ XL exc L W H X
def LI (wp : XD → Mn.Env → Hm → (List D → (Hm → Prop) → Hm → Prop) → Prop) : TI := fun σ H R => ∃ r m P X, REnv L.F H r σ ∧ Rel L m H ∧ wp X r m P ∧
  (∀ xs st m2 J H2, P xs st m2 → ItOk L H2 J xs st → Rel L m2 H2 → Kp H H2 → R J H2) ∧ XL exc L W H X
end
theorem XL.mono {exc : Nat → Option Addr} {L : Lk} {W : WX} {H H2 : Hp} {X : XD} (h : XL exc L W H X) (k : Kp H H2) : XL exc L W H2 X := fun c r m Ca H3 σ h1 h2 h3 h4 h5 => h c r m Ca H3 σ h1 h2 h3 h4 (k.trans h5)
section
variable {X : Cx}
theorem PE.weak {e : Expr} {t t2 : TE} (h : PE X e t) (w : ∀ σ H Q, t2 σ H Q → t σ H Q) : PE X e t2 := ⟨fun pins s σ H Q I q => h.run pins s σ H Q I (w _ _ _ q)⟩
theorem PT.weak {e : Expr} {t t2 : TT} (h : PT X e t) (w : ∀ σ H Q, t2 σ H Q → t σ H Q) : PT X e t2 := ⟨fun pins s σ H Q I q => h.run pins s σ H Q I (w _ _ _ q)⟩
theorem PW.weak {e : Expr} {t t2 : TT} (h : PW X e t) (w : ∀ σ H Q, t2 σ H Q → t σ H Q) : PW X e t2 := ⟨fun wh pins s σ H Q I q => h.run wh pins s σ H Q I (w _ _ _ q)⟩
theorem PA.weak {e : List Expr} {t t2 : TA} (h : PA X e t) (w : ∀ σ H Q, t2 σ H Q → t σ H Q) : PA X e t2 := ⟨fun pos pins s σ H Q I q => h.run pos pins s σ H Q I (w _ _ _ q)⟩
theorem PO.weak {e : Option Expr} {t t2 : TO} (h : PO X e t) (w : ∀ σ H Q, t2 σ H Q → t σ H Q) : PO X e t2 := ⟨fun pins s σ H Q I q => h.run pins s σ H Q I (w _ _ _ q)⟩
theorem PI.weak {tg e : Expr} {t t2 : TI} (h : PI X tg e t) (w : ∀ σ H Q, t2 σ H Q → t σ H Q) : PI X tg e t2 := ⟨fun pins s σ H Q I q => h.run pins s σ H Q I (w _ _ _ q)⟩
theorem PG.weak {tg : Expr} {t t2 : TG} (h : PG X tg t) (w : ∀ v σ H Q, t2 v σ H Q → t v σ H Q) : PG X tg t2 := ⟨fun pins s σ H v u Q I r q => h.run pins s σ H v u Q I r (w _ _ _ _ q)⟩
theorem PGs.weak {tg : List Expr} {t t2 : TGs} (h : PGs X tg t) (w : ∀ v σ H Q, t2 v σ H Q → t v σ H Q) : PGs X tg t2 := ⟨fun pins s σ H v u Q I r q => h.run pins s σ H v u Q I r (w _ _ _ _ q)⟩
theorem PS.weak {e : Stmt} {t t2 : TS} (h : PS X e t) (w : ∀ D σ H, t2 D σ H → t D σ H) : PS X e t2 := ⟨fun pins s σ H D I q => h.run pins s σ H D I (w _ _ _ q)⟩
theorem PSs.weak {e : List Stmt} {t t2 : TS} (h : PSs X e t) (w : ∀ D σ H, t2 D σ H → t D σ H) : PSs X e t2 := ⟨fun pins s σ H D I q => h.run pins s σ H D I (w _ _ _ q)⟩
end
theorem Ctx.cold {exc : Nat → Option Addr} {L : Lk} {t : Tab} {n : Dn} {C : Nm} {N : List Str} {sc : Scope} {X : Cx} (cx : Ctx exc L t n C N sc X) (h : (!C.hot) = true) : n.hx = none := by
  rw [cx.hot] at h
  cases e : n.hx with
  | none => rfl
  | some _ => rw [e] at h; cases h
end Mn
end

section
set_option Elab.async false
set_option linter.all false
set_option maxRecDepth 100000
set_option maxHeartbeats 4000000
namespace Mn
open PySem PySem.Spec PyProof.Rows L2
theorem unlL_spec {α : Type} [DecidableEq α] (l : List α) : (unlL l).Nodup ∧ ∀ x, x ∈ unlL l ↔ x ∈ l := by
  have key : ∀ (l acc : List α), acc.Nodup → (l.foldl (fun acc x => if x ∈ acc then acc else acc ++ [x]) acc).Nodup ∧ ∀ x, x ∈ l.foldl (fun acc x => if x ∈ acc then acc else acc ++ [x]) acc ↔ x ∈ acc ∨ x ∈ l := by
    intro l
    induction l with
    | nil => intro acc h; exact ⟨h, fun x => by simp⟩
    | cons y l ih =>
      intro acc h
      rw [List.foldl_cons]
      by_cases hy : y ∈ acc
      · rw [if_pos hy]
        obtain ⟨h1, h2⟩ := ih acc h
        refine ⟨h1, fun x => ?_⟩
        rw [h2, List.mem_cons]
        constructor
        · rintro (h | h)
          · exact .inl h
          · exact .inr (.inr h)
        · rintro (h | h | h)
          · exact .inl h
          · subst h; exact .inl hy
          · exact .inr h
      · rw [if_neg hy]
        obtain ⟨h1, h2⟩ := ih (acc ++ [y]) (List.nodup_append.mpr ⟨h, by simp, fun a ha b hb e => by
          rw [List.mem_singleton.mp hb] at e
          exact hy (e ▸ ha)⟩)
        refine ⟨h1, fun x => ?_⟩
        rw [h2, List.mem_append, List.mem_singleton, List.mem_cons, or_assoc]
  obtain ⟨h1, h2⟩ := key l [] List.nodup_nil
  exact ⟨h1, fun x => (h2 x).trans (by simp)⟩
section
variable {L : Lk} {m : Hm} {H : Hp} {P : PD} {Q : VK}
theorem tupIs_ok : ∀ {ds : List D} {ws : List V} {ks : List (List Int)}, tupIs ds = some ks → Rps L.F H ds ws → ∃ ps : List (Addr × List Int), ws = ps.map (fun p => V.ref p.1) ∧ (∀ p ∈ ps, SqT L.F H p.1 (p.2.map V.int)) ∧ ps.map (·.2) = ks
  | [], _, ks, e, .nil => by
    cases e
    exact ⟨[], rfl, fun p hp => (nomatch hp), rfl⟩
  | d :: ds, _, ks, e, .cons r rs => by
    simp only [tupIs] at e
    split at e
    · rename_i xs t e2
      cases e3 : intsOf xs with
      | none => rw [e3] at e; cases e
      | some ns =>
        rw [e3] at e
        cases e
        obtain ⟨ps, h1, h2, h3⟩ := tupIs_ok e2 rs
        cases r with
        | @tup _ a us sq ru =>
          have e4 := ru.ints e3
          subst e4
          refine ⟨(a, ns) :: ps, by rw [h1]; rfl, fun p hp => ?_, by rw [List.map_cons, h3]⟩
          rcases List.mem_cons.mp hp with rfl | hp
          · exact sq.sq
          · exact h2 p hp
    · cases e
end
/-- sorted(set(xs)), xs a list of nested tuples -/
def tSortSetN (K : PySem.W.Frag) (ta : TA) : TE := fun σ H Q => ta σ H fun vs H1 => ∃ (l : Addr) (ds : List D) (us : List V), vs = [V.ref l] ∧ SqL K H1 l us ∧ Rps K H1 ds us ∧ nestL ds = true ∧ ds.length < 64 ∧ sortable ds = true ∧
  ∀ (ms : List D) (p : Addr) (ys : List V), ms.Nodup → (∀ k, k ∈ ms ↔ k ∈ ds) → H1 p = none → Rps K H1 (ms.mergeSort leD) ys → Q (.ref p) (upd H1 p (.lst ys))
section
variable {L : Lk} {m : Hm} {H : Hp} {P : PD} {Q : VK} {xs : List D} {vs : List V}
/-- the rules, behind what they walk -/
def fuR (K : PySem.W.Frag) : Fu → List V → Hp → VK → Prop
  | .lenT => fun vs H1 Q => ∃ (l : Addr) (ks : List (Addr × List Int)), vs = [V.ref l] ∧ SqL K H1 l (ks.map fun p => V.ref p.1) ∧ (∀ p ∈ ks, SqT K H1 p.1 (p.2.map V.int)) ∧ ks.length < 64 ∧
      ∀ n : Nat, (∃ L : List (List Int), L.Nodup ∧ (∀ k, k ∈ L ↔ k ∈ ks.map (·.2)) ∧ L.length = n) → Q (.int n) H1
  | .sortN => fun vs H1 Q => ∃ (l : Addr) (ds : List D) (us : List V), vs = [V.ref l] ∧ SqL K H1 l us ∧ Rps K H1 ds us ∧ nestL ds = true ∧ ds.length < 64 ∧ sortable ds = true ∧
      ∀ (ms : List D) (p : Addr) (ys : List V), ms.Nodup → (∀ k, k ∈ ms ↔ k ∈ ds) → H1 p = none → Rps K H1 (ms.mergeSort leD) ys → Q (.ref p) (upd H1 p (.lst ys))
theorem fu_ok {f : Fu} (h : fuW f xs m P) (rs : Rps L.F H xs vs) (rel : Rel L m H) (q : Kt L H P Q) : fuR L.F f vs H Q := by
  cases f with
  | lenT =>
    cases rs with
    | nil => exact h.elim
    | @cons d w ds ws r1 rt => cases rt with
      | cons _ _ => cases d <;> exact h.elim
      | nil =>
        cases r1 with
        | ref a =>
          obtain ⟨ds, ks, e1, e2, e3, hp⟩ := h
          obtain ⟨us, k1, k2, _⟩ := lst_of e1 rel
          obtain ⟨ps, h1, h2, h3⟩ := tupIs_ok e2 k2
          subst h1
          refine ⟨a, ps, rfl, k1, h2, by rw [← List.length_map (f := (·.2)), h3]; exact e3, fun n hn => ?_⟩
          obtain ⟨L2, nd, mem, rfl⟩ := hn
          rw [h3] at mem
          obtain ⟨u1, u2⟩ := unlL_spec ks
          have pm : L2.Perm (unlL ks) := (List.perm_ext_iff_of_nodup nd u1).mpr fun x => (mem x).trans (u2 x).symm
          rw [pm.length_eq]
          exact q.here hp (.int _) rel
        | _ => exact h.elim
  | sortN =>
    cases rs with
    | nil => exact h.elim
    | @cons d w ds ws r1 rt => cases rt with
      | cons _ _ => cases d <;> exact h.elim
      | nil =>
        cases r1 with
        | ref a =>
          obtain ⟨ds, e1, e2, e3, e4, hp⟩ := h
          obtain ⟨us, k1, k2, _⟩ := lst_of e1 rel
          exact ⟨a, ds, us, rfl, k1, k2, e2, e3, e4, fun ms p ys nd hm hn ry => q.lst (hp ms nd hm) ry rel hn⟩
        | _ => exact h.elim
end
section
variable {X : Cx} {L : Lk}
theorem perm_map_inv {α β : Type} {g : α → β} {l m : List β} (h : l.Perm m) : ∀ xs : List α, m = xs.map g → ∃ ys : List α, List.Perm ys xs ∧ l = ys.map g := by
  induction h with
  | nil => intro xs e; exact ⟨xs, .refl _, e⟩
  | cons x _ ih =>
    intro xs e
    cases xs with
    | nil => cases e
    | cons y ys =>
      rw [List.map_cons, List.cons.injEq] at e
      obtain ⟨zs, p, q⟩ := ih ys e.2
      exact ⟨y :: zs, p.cons y, by rw [List.map_cons, ← q, e.1]⟩
  | swap x y l =>
    intro xs e
    cases xs with
    | nil => cases e
    | cons a xs => cases xs with
      | nil => simp at e
      | cons b xs =>
        simp only [List.map_cons, List.cons.injEq] at e
        exact ⟨b :: a :: xs, .swap _ _ _, by simp [e]⟩
  | trans _ _ ih1 ih2 =>
    intro xs e
    obtain ⟨ys, p, q⟩ := ih2 xs e
    obtain ⟨zs, p2, q2⟩ := ih1 ys q
    exact ⟨zs, p2.trans p, q2⟩
theorem nest_rows {F : PySem.W.Frag} {H : Hp} : ∀ {ds : List D} {us : List V}, nestL ds = true → Rps F H ds us → ∃ T : List (List D × Addr), ds = T.map (fun t => .tup t.1) ∧ us = T.map (fun t => V.ref t.2) ∧ ∀ t ∈ T, D.keyds 7 t.1 = true ∧ Rp F H (.tup t.1) (.ref t.2)
  | [], _, _, .nil => ⟨[], rfl, rfl, fun t ht => nomatch ht⟩
  | d :: ds, _, h, .cons r rs => by
    simp only [nestL, List.all_cons, Bool.and_eq_true] at h
    obtain ⟨T, e1, e2, e3⟩ := nest_rows (ds := ds) (by simpa [nestL] using h.2) rs
    cases r with
    | tup sq ru =>
      refine ⟨(_, _) :: T, by rw [e1]; rfl, by rw [e2]; rfl, fun t ht => ?_⟩
      rcases List.mem_cons.mp ht with z | z
      · rw [z]; exact ⟨h.1, .tup sq ru⟩
      · exact e3 t z
    | _ => exact absurd h.1 (by simp)
theorem rows_rps {F : PySem.W.Frag} {H : Hp} : ∀ {T : List (List D × Addr)}, (∀ t ∈ T, Rp F H (.tup t.1) (.ref t.2)) → Rps F H (T.map fun t => .tup t.1) (T.map fun t => V.ref t.2)
  | [], _ => .nil
  | t :: T, h => .cons (h t List.mem_cons_self) (rows_rps fun u hu => h u (List.mem_cons_of_mem _ hu))
theorem rows_vals : ∀ T : List (List D × Addr), Vals (T.map fun t => V.ref t.2) (T.map fun t => Value.ref t.2)
  | [] => .nil
  | t :: T => .cons rfl (rows_vals T)
theorem run_sortN {pins : List (Addr × Obj)} {σ : L2.St} {H : Hp} {s : Shared} {Q : VK} {a : Addr} {M : List (List D × Addr)} {es : Array (Int × Value)} {ep : Nat} {t : SetTable} (hk : X.K = L.F) (hc : X.calm = true) (hu : X.A.units + 65 < cLine) (I : Inv X pins σ H s)
    (S : SetN X.prog X.w s.heap a (M.map fun t => (t.2, nkT t.1)) es ep t) (hM : ∀ t ∈ M, Rp L.F H (.tup t.1) (.ref t.2)) {dd : List D} (hdd : ∀ t ∈ M, D.tup t.1 ∈ dd) (so : sortable dd = true)
    (q : ∀ (M2 : List (List D × Addr)) (p : Addr) (ys : List V), M2.Perm M → H p = none → Rps L.F H ((M2.map fun t => D.tup t.1).mergeSort leD) ys → Q (.ref p) (upd H p (.lst ys))) :
    wpAny (model X.prog X.w) X.A (call (.builtin "sorted") [.ref a]) (EP X pins σ Q) X.xe s := by
  obtain ⟨o, ho, hex, hd⟩ := S.ob
  have hfew := S.few
  rw [List.length_map] at hfew
  refine Calls.call_function_entry PyProof.Rows.kind_sorted PyProof.Rows.plain_sorted PyProof.Rows.entry_sorted (PyProof.Rows.args_sorted1 _) ?_
  unfold Builtin.«sorted»
  refine wpAny_bind (m := checkCount "sorted" 1 1 _) (wpAny_pure ?_)
  refine wpAny_bind (collect_set (A := X.A.in1) (I.ok.hd hc) ⟨o, ho, hex.1, hd⟩ S.fits (by rw [S.size, List.length_map]; unfold scanBound; omega) S.tab.ris S.led fun s1 vs kp hz g1 o1 pm => ?_)
  have e0 : es.toList.map (·.2) = M.map fun t => Value.ref t.2 := by
    rw [S.rows, List.map_map, List.map_map] <;> rfl
  rw [e0] at pm
  obtain ⟨M2, pM, rfl⟩ := perm_map_inv pm M rfl
  have I2 : Inv X pins σ H s1 := by
    have J : Inv X pins σ H { s with heap := s1.heap, gens := s1.gens, drawn := s1.drawn, toks := s1.toks } := I.call (ch := []) (Un.kept kp) (I.hok.kept kp) (by rw [g1]; exact I.bare) (fun _ z => nomatch z)
    have e : s1 = { s with heap := s1.heap, gens := s1.gens, drawn := s1.drawn, toks := s1.toks } := by
      cases s1
      cases s
      cases o1
      rfl
    rw [e]
    exact J
  obtain ⟨h2, g2, d2, tk, os2⟩ := s1
  have rs : Rps L.F H (M2.map fun t => D.tup t.1) (M2.map fun t => V.ref t.2) := rows_rps fun t ht => hM t (pM.mem_iff.mp ht)
  have rv := rows_vals M2
  have hds : ∀ x ∈ (M2.map fun t => D.tup t.1), x ∈ dd := fun x hx => by
    obtain ⟨t, ht, rfl⟩ := List.mem_map.mp hx
    exact hdd t (pM.mem_iff.mp ht)
  have hlz : (M2.map fun t => Value.ref t.2).length ≤ sizeLine := by rw [List.length_map, pM.length_eq, sizeLine_eq]; omega
  replace q : ∀ p ys, H p = none → Rps L.F H ((M2.map fun t => D.tup t.1).mergeSort leD) ys → Q (.ref p) (upd H p (.lst ys)) := fun p ys => q M2 p ys pM
  generalize (M2.map fun t => D.tup t.1) = ds at rs hds q
  generalize (M2.map fun t => V.ref t.2) = ws at rs rv
  generalize (M2.map fun t => Value.ref t.2) = its at rv hlz
  refine wpAny_bind (wpAny_newList ?_ hlz)
  simp only [sortable, Bool.and_eq_true, Bool.or_eq_true, decide_eq_true_eq] at so
  obtain ⟨⟨⟨kind, al⟩, fl⟩, _⟩ := so
  have alk : ∀ x ∈ ds, ∀ y ∈ ds, Mn.D.alike x y = true := fun x hx y hy => by
    have := List.all_eq_true.mp al x (hds x hx)
    exact List.all_eq_true.mp this y (hds y hy)
  have flt : ∀ x ∈ ds, D.flat 59 x = true := fun x hx => flat_all fl x (hds x hx)
  have e1 := each_of rs rv
  have hoL : (h2.push (seqObj "list" its.toArray 0)).get? h2.objs.size = some (seqObj "list" its.toArray 0) := Heap.get?_push_size _ rfl
  have oldS : ∀ b o, h2.get? b = some o → (PySem.W.sortingHeap (h2.push (seqObj "list" its.toArray 0)) h2.objs.size its).get? b = some o := fun b o e =>
    PySem.W.sortingHeap_old (Nat.ne_of_lt (Heap.lt_size e)) (Heap.get?_push_of_some _ e)
  have e2 : PySem.W.EachIs (fun (v : Value) (d : Mn.D) => ∃ as, Reads (PySem.W.sortingHeap (h2.push (seqObj "list" its.toArray 0)) h2.objs.size its) v (toP d) as) its ds := by
    have key : ∀ {its0 : List Value} {ds : List Mn.D}, (∀ x ∈ ds, Mn.D.flat 59 x = true) → PySem.W.EachIs (fun (v : Value) (d : Mn.D) => ∃ x : V, RelV x v ∧ Rp L.F H d x) its0 ds →
        PySem.W.EachIs (fun (v : Value) (d : Mn.D) => ∃ as, Reads (PySem.W.sortingHeap (h2.push (seqObj "list" its.toArray 0)) h2.objs.size its) v (toP d) as) its0 ds := by
      intro its0 ds hf h
      induction h with
      | nil => exact .nil
      | cons h _ ih =>
        obtain ⟨x, h1, h3⟩ := h
        refine .cons ?_ (ih fun y hy => hf y (List.mem_cons_of_mem _ hy))
        have rel0 : Rel L (fun _ => none) H := fun _ _ e => by cases e
        have d1 := (flat_self (m := fun _ => none) (hf _ List.mem_cons_self)).dp rel0 h3
        rw [← hk] at d1
        obtain ⟨as, rd⟩ := Dp.reads I2 _ _ _ d1 h1
        exact ⟨as, PyProof.Rows.Reads.keeps oldS rd⟩
    exact key flt e1
  have hal : PySem.W.AllAlike (ds.map toP) := by
    intro d hd d2 hd2
    obtain ⟨x, hx, rfl⟩ := List.mem_map.mp hd
    obtain ⟨y, hy, rfl⟩ := List.mem_map.mp hd2
    exact alike_P (alk x hx y hy)
  have hso : PySem.W.Sortable (ds.map toP) := by
    rcases kind with k | k
    · refine .inl fun d hd => ?_
      obtain ⟨x, hx, rfl⟩ := List.mem_map.mp hd
      have h1 := List.all_eq_true.mp k x (hds x hx)
      cases x with
      | tup es => cases es with
        | nil => cases h1
        | cons e es => exact ⟨toP e, toPs es, by simp [toP, toPs]⟩
      | _ => cases h1
    · refine .inr fun d hd => ?_
      obtain ⟨x, hx, rfl⟩ := List.mem_map.mp hd
      have h1 := List.all_eq_true.mp k x (hds x hx)
      cases x with
      | str s => exact ⟨by simp [toP], fun xs => by simp [toP]⟩
      | _ => cases h1
  refine wpAny_bind (wpAny_holding (wpAny_call_entry PyProof.Rows.slot_list_sort ⟨_, hoL, rfl⟩ PyProof.Rows.entry_list_sort (PySem.W.list_sort_vals (A := X.A.in1.in1) (κ := PySem.W.dataKind (PySem.W.sortingHeap (h2.push (seqObj "list" its.toArray 0)) h2.objs.size its) (ds.map toP)) hoL
    (PySem.W.SortsAt.data (s := { heap := PySem.W.sortingHeap (h2.push (seqObj "list" its.toArray 0)) h2.objs.size its, gens := g2, drawn := d2, toks := tk, os := os2 }) (PySem.W.each_map (R := fun v d => ∃ as, Reads (PySem.W.sortingHeap (h2.push (seqObj "list" its.toArray 0)) h2.objs.size its) v d as) toP e2) hal hso (PySem.W.bound_map fun d hd => ?_)) hlz ⟨.none, rfl, ?_⟩) (PyProof.Rows.args_list_sort _)))
  · have := shp_dep (flat_shp (flt d hd))
    show X.A.units + 1 + 1 + _ < _
    omega
  · have he := PySem.W.sortVals_data false e1 e2 hal
    have hlo := PySem.W.sortVals_length (κ := PySem.W.dataKind (PySem.W.sortingHeap (h2.push (seqObj "list" its.toArray 0)) h2.objs.size its) (ds.map toP)) false (vs := its) rfl
    generalize PySem.W.sortVals (PySem.W.dataKind (PySem.W.sortingHeap (h2.push (seqObj "list" its.toArray 0)) h2.objs.size its) (ds.map toP)) false its its = out at he hlo ⊢
    have e3 : ds.mergeSort (PySem.W.dataLe false toP) = ds.mergeSort leD := map_sort fun x hx y hy => by
      rw [PySem.W.dataLe_eq]
      show (!PySem.W.dataLt (toP y) (toP x)) = !Mn.D.lt y x
      rw [lt_P (alk y hy x hx) (flt y hy) (flt x hx)]
    rw [e3] at he
    have key : ∀ {out : List Value} {es : List Mn.D}, PySem.W.EachIs (fun (v : Value) (d : Mn.D) => ∃ x : V, RelV x v ∧ Rp L.F H d x) out es → ∃ ys, Vals ys out ∧ Rps L.F H es ys := by
      intro out es h
      induction h with
      | nil => exact ⟨[], .nil, .nil⟩
      | cons h _ ih =>
        obtain ⟨x, h1, h2⟩ := h
        obtain ⟨ys, h3, h4⟩ := ih
        exact ⟨x :: ys, .cons h1 h3, .cons h2 h4⟩
    obtain ⟨ys, r3, r4⟩ := key he
    obtain ⟨ep, hat⟩ := sortedHeap_at (vs := its) (out := out.toArray) hoL
    have hlen : ys.length ≤ sizeLine := by
      rw [r3.length, hlo]
      exact hlz
    have hn : H h2.objs.size = none := I2.hok.fresh (Nat.le_refl _)
    refine wpAny_pure ⟨_, rfl, .ref h2.objs.size, upd H h2.objs.size (.lst ys), I2.laid (t' := tk) (fun b u e => ?_) (Nat.le_refl _) ⟨hlen, out, ep, r3, hat⟩, rfl, q _ _ hn r4⟩
    rw [sortedHeap_old (Nat.ne_of_lt (Heap.lt_size e)) (by rw [size_push']; exact Nat.lt_succ_of_lt (Heap.lt_size e))]
    exact Heap.get?_push_of_some _ e
theorem pe_sortSetN {a : Expr} {ta : TA} {p p2 q pos : Pos} (hk : X.K = L.F) (hg : Gl X "sorted") (hm : X.mg "sorted" = none) (hg2 : Gl X "set") (hm2 : X.mg "set" = none) (ha : PA X [a] ta) (hc : X.calm = true) (hu : X.A.units + 65 < cLine)
    (na : starEach [a] X.env = (false, eval a X.env) :: starEach [] X.env) : PE X (.Call (.Name "sorted" p) [.Call (.Name "set" p2) [a] [] q] [] pos) (tSortSetN X.K ta) := by
  constructor
  intro pins s σ H Q I h
  refine Call_ (ld_blt I hg hm boot_sorted ?_)
  apply PyProof.Rows.callWith_builtin1 (PyProof.Rows.args_cons _ rfl) rfl rfl
  refine Call_ (ld_blt I hg2 hm2 boot_set ?_)
  refine PyProof.Rows.callWith_type1 (thn (ha.run q pins s σ H _ I h) fun us s1 ⟨vs, H1, I1, r1, l, ds, xs, ex, hq, rs, nl, hl, so, q1⟩ => ?_) na rfl
  subst ex
  rw [Vals.ref1 r1]
  obtain ⟨its, rv, pl, hz⟩ := I1.list hq
  obtain ⟨T, rfl, rfl, e3⟩ := nest_rows nl rs
  have hit : its = T.map fun t => Value.ref t.2 := by
    have := refs_of_vals (ks := T.map fun t => (t.2, ([] : List Int))) (us := its) (by rw [List.map_map]; exact rv)
    rw [List.map_map] at this
    exact this
  rw [List.length_map] at hl
  rw [hk] at e3
  refine set_nested_list (prog := X.prog) (T.map fun t => (t.2, nkT t.1)) (I1.ok.hd hc) pl.isList (by rw [List.map_map, List.toList_toArray]; exact hit) (fun p hp => ?_) (by rw [List.length_map]; exact hl) (by omega) fun h2 tk L2 es ep t S g kp => ?_
  · obtain ⟨t, ht, rfl⟩ := List.mem_map.mp hp
    exact keyT_is hk I1 (e3 t ht).1 (e3 t ht).2
  refine PyProof.Rows.args_nil ?_
  have I2 : Inv X pins σ H1 { s1 with heap := h2, toks := tk } := I1.kept kp
  obtain ⟨g1, g2, _⟩ := g
  rw [List.take_length] at g1 g2
  -- the rows that the set has got
  obtain ⟨M, rfl, hMT⟩ : ∃ M : List (List D × Addr), L2 = M.map (fun t => (t.2, nkT t.1)) ∧ ∀ t ∈ M, t ∈ T := by
    have key : ∀ L2 : List (Addr × NestedKey), (∀ p ∈ L2, p ∈ T.map fun t => (t.2, nkT t.1)) → ∃ M : List (List D × Addr), L2 = M.map (fun t => (t.2, nkT t.1)) ∧ ∀ t ∈ M, t ∈ T := by
      intro L2
      induction L2 with
      | nil => exact fun _ => ⟨[], rfl, fun t ht => nomatch ht⟩
      | cons p L2 ih =>
        intro hp
        obtain ⟨t, ht, e⟩ := List.mem_map.mp (hp p List.mem_cons_self)
        obtain ⟨M, e1, e2⟩ := ih fun p hq => hp p (List.mem_cons_of_mem _ hq)
        refine ⟨t :: M, by rw [List.map_cons, e, ← e1], fun u hu => ?_⟩
        rcases List.mem_cons.mp hu with z | z
        · rw [z]; exact ht
        · exact e2 u z
    exact key L2 g1
  refine run_sortN hk hc hu I2 S (fun t ht => (e3 t (hMT t ht)).2) (dd := T.map fun t => D.tup t.1) (fun t ht => List.mem_map.mpr ⟨t, hMT t ht, rfl⟩) so fun M2 p ys pM hn ry => ?_
  rw [← hk] at ry
  refine q1 (M2.map fun t => D.tup t.1) p ys ?_ (fun k => ?_) hn ry
  · have nd := S.nd
    rw [List.map_map] at nd
    refine (pM.map _).nodup_iff.mpr (List.pairwise_map.mpr ((List.pairwise_map.mp nd).imp fun {a b} hne e => hne ?_))
    show nkT a.1 = nkT b.1
    rw [D.tup.inj e]
  · constructor
    · intro hk2
      obtain ⟨t, ht, rfl⟩ := List.mem_map.mp hk2
      exact List.mem_map.mpr ⟨t, hMT t (pM.mem_iff.mp ht), rfl⟩
    · intro hk2
      obtain ⟨t, ht, rfl⟩ := List.mem_map.mp hk2
      have := g2 _ (List.mem_map.mpr ⟨t, ht, rfl⟩)
      rw [List.map_map] at this
      obtain ⟨u, hu, e⟩ := List.mem_map.mp this
      have e4 : u.1 = t.1 := nkT_inj (e3 u (hMT u hu)).1 (e3 t ht).1 e
      exact List.mem_map.mpr ⟨u, pM.mem_iff.mpr hu, by rw [e4]⟩
end
end Mn
end

section
set_option Elab.async false
set_option linter.all false
set_option maxRecDepth 100000
set_option maxHeartbeats 4000000
namespace Mn
open PySem PySem.Spec PyProof.Rows L2 RZ
section
variable {Sx : Value → Prop} {X : Cx} {CX : CXT} {k : Nat} {f Ca : Addr} {fd : FuncData} {ps : List Str} {sp : Sp} {W : WX} {x m : Str} {p pos apos : Pos} {e o : Expr} {as : List Expr} {ta : TE} {t : TA}
theorem pe_c0 (F : FnOk X.prog X.w X.K X.mg X.base (CXk Sx X.prog X.w) k f fd ps sp) (hr : Room k X.A) (hg : Gl X x) (hm : X.mg x = some (.ref f)) (hk : PySem.W.keepIn X.K (.ref f) = true) (hb : Binds X.K fd ps []) (tk : Tk Sx X W)
    (hdb : (x == ("__debug__" : Str)) = false) : PE X (.Call (.Name x p) [] [] pos) (fun σ H Q => sp [] H Q (WE W σ)) := by
  constructor
  intro pins s σ H Q J q
  apply wpAny_Call_Name_kw
  apply ld_glob J hg hm _ hdb
  exact PySem.W.callWith_K0 J.kIn hk (run_fnSD (dvs := []) (ds := []) (us := []) (vs := []) F hr hb .nil ((Tk.pass tk σ)) J .nil q)
theorem pe_c1 {es : List Expr} (F : FnOk X.prog X.w X.K X.mg X.base (CXk Sx X.prog X.w) k f fd ps sp) (hr : Room k X.A) (hg : Gl X x) (hm : X.mg x = some (.ref f)) (hk : PySem.W.keepIn X.K (.ref f) = true) (hb : Binds X.K fd ps []) (tk : Tk Sx X W)
    (ha : PA X (e :: es) t) (hs : (e :: es).all nostar = true) (hdb : (x == ("__debug__" : Str)) = false) : PE X (.Call (.Name x p) (e :: es) [] pos) (fun σ H Q => t σ H fun vs H1 => sp vs H1 Q (WE W σ)) := by
  have hs2 : nostar e = true ∧ es.all nostar = true := by rw [List.all_cons, Bool.and_eq_true] at hs; exact hs
  refine Mn.PE.weak (pe_callSD (E := WE W) (dvs := []) F hr hg hm hk hb .nil (fun σ => (Tk.pass tk σ)) ha hdb (star_ok hs2.1 es X.env) (stars_ok hs2.2 pos X.env).1) fun σ H Q q => ?_
  show t σ H fun vs H1 => sp (vs ++ []) H1 Q (WE W σ)
  simpa only [List.append_nil] using q
section
variable {P : Program} {w : World} {K : PySem.W.Frag} {mg : Str → Option Value} {base : Heap} {G : Addr × Obj → Prop}
theorem fnK_of {nm qual : Str} {params : Arguments} {body : List Stmt} {scope : Scope} {N : List Str} (F : FunD K nm qual params body scope [] [] f fd) (S : FnScope N ps scope) (len : ∀ vs H Q E, sp vs H Q E → vs.length = ps.length)
    (hbody : ∀ (cdv : Value) (A : Around) (outer : List PySem.Env) (s : Shared) (H : Hp) (vs : List V) (Q : VK) (E : XK) (p : Addr × Obj), Hot0 A p → G p → L2H.RoomH k (A.deeper (envOfC qual scope s.heap.objs.size f cdv)) → sp vs H Q E →
      ∃ t, PSs (L2H.cxH (CXk Sx P w) P w K mg base N qual scope f cdv A outer s H E p) body t ∧ t { nx := fun _ H' => Q .non H', rt := Q } (L2.start N vs) H) :
    FnK Sx P w K mg base (k + 1) f fd ps sp G := by
  obtain ⟨oc, od, dV, kV, doc, pm, an, cdv, ct, osl, rfl, lk, hcd, _, _⟩ := F.ex
  constructor
  · exact len
  intro A outer s H args us vs Q E p room hot g pin en bd rv want
  have kx := en.mod.kin.keeps fun b o e => (en.bs b o e).1
  have bind : ∀ y ∈ ps.zip us, scope.names.lookup y.1 = some .local ∨ (scope.names.lookup y.1 = some .cell ∧
      ((cellsFrom (s.heap.objs.size + 1) scope.names []).lookup y.1).isSome = true) := by
    rintro ⟨z, u⟩ hz
    cases S.par z (List.of_mem_zip hz).1 with
    | inl q => exact .inl q
    | inr q => exact .inr ⟨q, PySem.W.cellsFrom_some _ _ _ (.inl q)⟩
  apply codeAny_call_function room.depth (kx _ _ lk) rfl S.co S.gen rfl
    (PySem.W.codeRec_of kx hcd)
  apply bd
  apply wpAny_newFunctionEnv_cells S.kind bind
  intro env he s1 ic
  cases he
  refine ⟨(en.mod.nolimit.keeps fun b o e => (en.bs b o e).1).keeps ic.toInCall.keep, ?_⟩
  apply codeAny_func
  obtain ⟨t, ht, hq⟩ := hbody cdv A outer s H vs Q E p hot g (room.deeper _) want
  have J := L2H.inv_startH (CX := CXk Sx P w) (E := E) S pin en (len _ _ _ _ want) rv ic
  apply wpAny_mono (ht.run [] s1 _ H _ J hq)
  · intro fl s2 h2
    cases fl with
    | ret u =>
      obtain ⟨v, _, H2, J2, ru, q⟩ := h2
      exact ⟨v, H2, J2.os, J2.bare, J2.base, J2.hok, ru, q⟩
    | next =>
      obtain ⟨_, H2, J2, q⟩ := h2
      exact ⟨.non, H2, J2.os, J2.bare, J2.base, J2.hok, rfl, q⟩
    | brk => exact h2.elim fun _ h3 => h3.elim fun _ h4 => h4.2.elim
    | cont => exact h2.elim fun _ h3 => h3.elim fun _ h4 => h4.2.elim
  · exact fun _ _ h => h
variable {pa : Addr × Obj}
theorem run_fnK {pins : List (Addr × Obj)} {σ : L2.St} {H : Hp} {s : Shared} {Q : VK} {us : List Value} {vs : List V} (F : FnK Sx X.prog X.w X.K X.mg X.base k f fd ps sp G) (room : L2H.RoomH k X.A) (hot : Hot0 X.A pa) (hp : pa ∈ X.pn) (g : G pa) (hb : Binds X.K fd ps [])
    (tk : Tk Sx X W) (J : Inv X pins σ H s) (r : Vals vs us) (q : sp vs H Q (WE W σ)) : wpAny (model X.prog X.w) X.A (call (.ref f) us) (EP X pins σ Q) X.xe s := by
  have pin := J.pin pa (List.mem_append_left _ hp)
  have hl : (us ++ ([] : List Value)).length = ps.length := by
    rw [List.append_nil, ← r.length]
    exact F.len _ _ _ _ q
  have bb := hb s us J.kIn hl
  rw [List.append_nil] at bb
  have off : pa.1 ∉ frs X.stack := fun hm => by
    rcases List.mem_cons.mp (J.stkSub pa.1 hm) with z | z
    · exact pin.2.2.1 z
    · exact pin.2.2.2.1 z
  have go := F.run X.A X.stack s H ⟨us, []⟩ us vs Q (WE W σ) pa room hot g ⟨pin.1, pin.2.1, off, pin.2.2.2.2⟩ J.env0 bb r q
  apply wpAny_call
  apply codeAny_mono go
  intro res s2 h2
  cases res with
  | error e => exact (Tk.pass tk σ) pins H s e s2 J h2
  | ok fl => cases fl with
    | ret u => exact J.after h2
    | _ => exact False.elim h2
theorem pe_cK (F : FnK Sx X.prog X.w X.K X.mg X.base k f fd ps sp G) (room : L2H.RoomH k X.A) (hot : Hot0 X.A pa) (hp : pa ∈ X.pn) (g : G pa) (hg : Gl X x) (hm : X.mg x = some (.ref f)) (hk : PySem.W.keepIn X.K (.ref f) = true) (hb : Binds X.K fd ps []) (tk : Tk Sx X W)
    (ha : PA X as t) (h0 : as = [] → ∀ σ H Q, t σ H Q → Q [] H) (hs : as.all nostar = true) (hdb : (x == ("__debug__" : Str)) = false) : PE X (.Call (.Name x p) as [] pos) (fun σ H Q => t σ H fun vs H1 => sp vs H1 Q (WE W σ)) := by
  constructor
  intro pins s σ H Q J q
  apply wpAny_Call_Name_kw
  apply ld_glob J hg hm _ hdb
  cases as with
  | nil => exact PySem.W.callWith_K0 J.kIn hk (run_fnK (us := []) (vs := []) F room hot hp g hb tk J .nil (h0 rfl _ _ _ q))
  | cons e es =>
    have hs2 : nostar e = true ∧ es.all nostar = true := by rw [List.all_cons, Bool.and_eq_true] at hs; exact hs
    refine PySem.W.callWith_K (h₀ := X.base) J.ok.mod.kin hk (thn (ha.run pos pins s σ H _ J q) fun us s2 ⟨vs, H2, J2, r, q2⟩ => ⟨J2.kIn, ?_⟩) (star_ok hs2.1 es X.env) (stars_ok hs2.2 pos X.env).1
    exact run_fnK F room hot hp g hb tk J2 r q2
/-- isinstance of the handled exception -/
theorem call_isK {Da : Addr} (C : ExcC X.K Da) (hp : pa ∈ X.pn) (hz : Zc (.ref Da) none pa.2) (hf : ∃ vs, pa.2.data = .fields vs) : CallR X (.builtin "isinstance")
    (fun xs H Q => ∃ (c : V) (cv : Value) (b : Bool), xs = [.ref pa.1, c] ∧ (∀ u, RelV c u → u = cv) ∧ PySem.W.kitOne X.K (.ref Da) cv = some b ∧ Q (.bl b) H) := by
  intro pins s σ H xs us Q J r h
  obtain ⟨c, cv, b, rfl, hcv, e, q⟩ := h
  obtain ⟨u1, u2, rfl, r1, r2⟩ := r.two
  obtain rfl : u1 = Value.ref pa.1 := r1
  obtain rfl := hcv _ r2
  have pin := J.pin pa (List.mem_append_left _ hp)
  obtain ⟨a, ⟨oc, od, oda, osl⟩⟩ := pa
  obtain ⟨vs, hv⟩ := hf
  obtain ⟨h1, h2⟩ := hz
  cases h1
  cases h2
  cases hv
  have at_ : PySem.W.InstAt s.heap a _ Da none := ⟨pin.1, rfl, rfl, trivial⟩
  have kx := PySem.W.handS_kitx_exc C.hg C.hk C.hs C.hd C.ha C.hn C.ht C.hm (x := a) (ox := ⟨.ref Da, none, .fields vs, osl⟩)
  exact PySem.W.kia_one kx J.kIn at_ e (fun z => nomatch z) fun tk => ⟨.bl b, H, J.kept (t' := tk) fun _ _ z => z, rfl, q⟩
end
/-- o.m(..), an own method -/
theorem meth_form (hsup : nosup o = true) (hs : as.all nostar = true) (hl : as.length < 29) (hline : (apos.endLine == pos.line) = true) (env : PySem.Env) :
    eval (.Call (.Attribute o m apos) as [] pos) env = (do
      let ov ← eval o env
      standAt apos.atName
      let (f, first) ← holding [ov] (getMethod ov m (do return (← importBound o env).getD true))
      callWith pos f first (backTo pos (starEach as env)) (backToKw pos (keywordEach [] env))) := by
  have hform : methodCallForm (as.length + ([] : List Keyword).length) (backTo pos (starEach as env)) (backToKw pos (keywordEach [] env)) = true := by
    unfold methodCallForm
    have h2 := (stars_ok hs pos env).2.1
    rw [h2]
    simp [backToKw, keywordEach]
    omega
  have hpos : methodCallPos true o env apos pos = pure pos := by unfold methodCallPos; simp [hline]
  rw [arm_eval_Call, sup_ok hsup]
  unfold methodCall
  simp only [hform, hpos]
  rfl
/-- the class is found when the object is there: sp, the def and the class may hang on it -/
theorem pe_mU (he : PE X o ta) (hsup : nosup o = true) (hs : as.all nostar = true) (hl : as.length < 29) (hline : (apos.endLine == pos.line) = true) (tk : Tk Sx X W) (ha : PA X as t) (h0 : as = [] → ∀ σ H Q, t σ H Q → Q [] H) (hr : Room k X.A) :
    PE X (.Call (.Attribute o m apos) as [] pos) (fun σ H Q => ta σ H fun x H1 => ∃ a Ca dx fs f fd ps sp, x = .ref a ∧ H1 a = some (.ins Ca dx fs) ∧ fs.lookup m = none ∧ Cls X.K Ca ∧ Meth X.K Ca m f ∧ Binds X.K fd ps [] ∧
      FnOk X.prog X.w X.K X.mg X.base (CXk Sx X.prog X.w) k f fd ps sp ∧ t σ H1 fun vs H2 => sp (x :: vs) H2 Q (WE W σ)) := by
  constructor
  intro pins s σ H Q J q
  refine PySem.W.methodCall_KW (thn (he.run pins s σ H _ J q) fun u s1 ⟨y, H1, J1, ry, a, Ca, dx, fs, f, fd, ps, sp, ey, ea, l, c, mm, hb, F, q1⟩ => ?_) (meth_form hsup hs hl hline X.env)
  subst ey
  obtain rfl : u = Value.ref a := ry
  refine getmeth_ok J1 ea c mm l ?_
  cases as with
  | nil =>
    have q2 := h0 rfl _ _ _ q1
    exact PySem.W.callWith_K0 (first := [.ref a]) J1.kIn mm.kp (run_fnSD (dvs := []) (ds := []) (us := [.ref a]) (vs := [.ref a]) F hr hb .nil ((Tk.pass tk σ)) J1 (.cons rfl .nil) q2)
  | cons e es =>
    have hs2 : nostar e = true ∧ es.all nostar = true := by rw [List.all_cons, Bool.and_eq_true] at hs; exact hs
    refine PySem.W.callWith_K (first := [.ref a]) (h₀ := X.base) J1.ok.mod.kin mm.kp (thn (ha.run pos pins s1 σ H1 _ J1 q1) fun us s2 ⟨vs, H2, J2, r, q2⟩ => ⟨J2.kIn, ?_⟩) (star_ok hs2.1 es X.env) (stars_ok hs2.2 pos X.env).1
    exact run_fnSD (dvs := []) (ds := []) (us := .ref a :: us) (vs := .ref a :: vs) F hr hb .nil ((Tk.pass tk σ)) J2 (.cons rfl r) (by rw [List.append_nil]; exact q2)
/-- C(..) -/
theorem run_mk {pins : List (Addr × Obj)} {σ : L2.St} {H : Hp} {s : Shared} {Q : VK} {us : List Value} {vs : List V} (M : Mk X.K Ca f) (F : FnOk X.prog X.w X.K X.mg X.base (CXk Sx X.prog X.w) k f fd ps sp) (hr : Room (k + 1) X.A) (hb : Binds X.K fd ps [])
    (tk : Tk Sx X W) (J : Inv X pins σ H s) (r : Vals vs us) (q : ∀ y dy, H y = none → H dy = none → dy ≠ y → sp (.ref y :: vs) (upd (upd H dy (.own y)) y (.ins Ca dy [])) (fun v H2 => v = .non ∧ Q (.ref y) H2) (WE W σ)) :
    wpAny (model X.prog X.w) X.A (call (.ref Ca) us) (EP X pins σ Q) X.xe s := by
  have f1 : H (s.heap.objs.size + 1) = none := J.hok.fresh (Nat.le_succ _)
  have f0 : H s.heap.objs.size = none := J.hok.fresh (Nat.le_refl _)
  have hq := q _ _ f1 f0 (Nat.ne_of_lt (Nat.lt_succ_self _))
  have J2 := Inv.made (C := Ca) J
  have r2 : Vals (V.ref (s.heap.objs.size + 1) :: vs) (Value.ref (s.heap.objs.size + 1) :: us) := .cons rfl r
  have hl : ((Value.ref (s.heap.objs.size + 1) :: us) ++ ([] : List Value)).length = ps.length := by
    rw [List.append_nil, ← r2.length]
    exact F.len _ _ _ _ hq
  have hbb := hb _ _ J2.kIn hl
  rw [List.append_nil] at hbb
  have go := F.run _ X.stack _ _ _ _ _ _ _ (hr.make Ca us []) (J2.env0.make Ca us []) hbb r2 hq
  refine wpAny_call (make_map J.kIn M.makes M.init (beq_iff_eq.mp M.fn) (codeAny_mono go fun res s2 h2 => ?_))
  cases res with
  | error e => exact (Tk.pass tk σ) pins _ _ e s2 J2 h2
  | ok fl => cases fl with
    | ret u =>
      obtain ⟨v, H3, J3, rv, ev, q3⟩ := J2.after h2
      subst ev
      exact ⟨rv, ⟨V.ref (s.heap.objs.size + 1), H3, J3, rfl, q3⟩⟩
    | _ => exact False.elim h2
theorem pe_mkU (hg : Gl X x) (hm : X.mg x = some (.ref Ca)) (M : Mk X.K Ca f) (F : FnOk X.prog X.w X.K X.mg X.base (CXk Sx X.prog X.w) k f fd ps sp) (hr : Room (k + 1) X.A) (hb : Binds X.K fd ps []) (tk : Tk Sx X W) (ha : PA X as t) (h0 : as = [] → ∀ σ H Q, t σ H Q → Q [] H)
    (hs : as.all nostar = true) (hdb : (x == ("__debug__" : Str)) = false) : PE X (.Call (.Name x p) as [] pos) (fun σ H Q => t σ H fun vs H1 => ∀ y dy, H1 y = none → H1 dy = none → dy ≠ y →
      sp (.ref y :: vs) (upd (upd H1 dy (.own y)) y (.ins Ca dy [])) (fun v H2 => v = .non ∧ Q (.ref y) H2) (WE W σ)) := by
  constructor
  intro pins s σ H Q J q
  apply wpAny_Call_Name_kw
  apply ld_glob J hg hm _ hdb
  cases as with
  | nil => exact PySem.W.callWith_K0 J.kIn M.kp (run_mk (us := []) M F hr hb tk J .nil (h0 rfl _ _ _ q))
  | cons e es =>
    have hs2 : nostar e = true ∧ es.all nostar = true := by rw [List.all_cons, Bool.and_eq_true] at hs; exact hs
    refine PySem.W.callWith_K (h₀ := X.base) J.ok.mod.kin M.kp (thn (ha.run pos pins s σ H _ J q) fun us s2 ⟨vs, H2, J2, r, q2⟩ => ⟨J2.kIn, ?_⟩) (star_ok hs2.1 es X.env) (stars_ok hs2.2 pos X.env).1
    exact run_mk M F hr hb tk J2 r q2
/-- o.m(..), a method of a built-in type, the type found when the object is there -/
theorem tyG_is {X : Cx} {L : Lk} {pins : List (Addr × Obj)} {σ : L2.St} {H : Hp} {s : Shared} {T : String} {x : V} {v : Value} (hk : X.K = L.F) (hw : X.w = L.w) (I : Inv X pins σ H s) (r : RelV x v) (ty : tyG L T x H) :
    s.TypeIs v T ∧ ∀ a, v = .ref a → ∃ ob, s.heap.get? a = some ob ∧ ob.dict = none := by
  rcases ty with ty | ⟨rfl, a, xs, rfl, D⟩
  · rw [← hk] at ty
    exact tyV_is I r ty
  · obtain rfl : v = Value.ref a := r
    rw [← hw] at D
    obtain ⟨⟨ys, o, es, ep, _, ho, hx, _⟩, _⟩ := (show ObjOk X.prog X.w H s.heap a (DtO X.w a xs) from I.hok a _ D.on)
    refine ⟨⟨o, ho, hx.1⟩, fun b e => ?_⟩
    cases e
    exact ⟨o, ho, hx.2.1⟩
theorem pe_bU {L : Lk} (hk : X.K = L.F) (hw : X.w = L.w) (he : PE X o ta) (hsup : nosup o = true) (hs : as.all nostar = true) (hl : as.length < 29) (hline : (apos.endLine == pos.line) = true) (ha : PA X as t) (h0 : as = [] → ∀ σ H Q, t σ H Q → Q [] H) :
    PE X (.Call (.Attribute o m apos) as [] pos) (fun σ H Q => ta σ H fun x H1 => ∃ T id r, MthOk X T m id r ∧ tyG L T x H1 ∧ t σ H1 fun vs H2 => r x vs H2 Q) := by
  constructor
  intro pins s σ H Q J q
  have few : ((backTo pos (starEach as X.env)).all (fun x => !x.1) && (backToKw pos (keywordEach [] X.env)).all (fun x => x.1.isSome) && decide (as.length + ([] : List Keyword).length + (if ([] : List Keyword).isEmpty then 0 else 1) < 30)) = true := by
    rw [(stars_ok hs pos X.env).2.1]
    simp [backToKw, keywordEach]
    omega
  refine wpAny_Call_method_late (sup_ok hsup m X.env) few hline rfl (thn (he.run pins s σ H _ J q) fun v s1 ⟨y, H1, J1, r1, T, id, r, mo, ty, q1⟩ => ?_)
  obtain ⟨h1, h2⟩ := tyG_is hk hw J1 r1 ty
  refine ⟨T, id, mo.pa, mo.slot, mo.ty, h1, h2, ?_⟩
  cases as with
  | nil => exact Calls.callWith_builtin rfl (PySem.evalArgs_none (mo.mt pins s1 σ H1 y [] v [] Q J1 r1 .nil (h0 rfl _ _ _ q1)))
  | cons e es =>
    have hs2 : nostar e = true ∧ es.all nostar = true := by rw [List.all_cons, Bool.and_eq_true] at hs; exact hs
    have hA := ha.run pos pins s1 σ H1 _ J1 q1
    rw [star_ok hs2.1] at hA ⊢
    refine Calls.callWith_builtin (by show (false || (backTo pos (starEach es X.env)).any (·.1)) = false; rw [(stars_ok hs2.2 pos X.env).1]; rfl) (Calls.evalArgs_plain ?_)
    exact thn hA fun us s2 ⟨vs, H2, J2, r2, q2⟩ => mo.mt pins s2 σ H2 y vs v us Q J2 r1 r2 q2
end
section
variable {X : Cx} {tg e : Expr} {te : TE}
def iAny (F : PySem.W.Frag) (te : TE) : TI := fun σ H R => te σ H fun x H1 => (∃ a, x = .ref a ∧ (∃ xs, SqL F H1 a xs) ∧ R (Itl F a) H1) ∨ (∃ a, x = .ref a ∧ (∃ xs, SqT F H1 a xs) ∧ R (Itt F a) H1) ∨ ∃ z, x = .str z ∧ R (Its z) H1
theorem pi_any (he : PE X e te) : PI X tg e (iAny X.K te) := by
  constructor
  intro pins s σ H R J q
  refine thn (he.run pins s σ H _ J q) fun v s1 ⟨y, H1, J1, r1, q1⟩ => ?_
  rcases q1 with ⟨a, ea, ⟨xs, hx⟩, q1⟩ | ⟨a, ea, ⟨xs, hx⟩, q1⟩ | ⟨z, ez, q1⟩
  · subst ea
    obtain rfl : v = Value.ref a := r1
    obtain ⟨its, _, pl, _⟩ := J1.list hx
    exact wpAny_pyIter_list pl.isList (pi_one (tk := s1.toks) J1 _ (turn_list a _) ⟨_, Heap.get?_push_size _ rfl, rfl, rfl⟩ q1)
  · subst ea
    obtain rfl : v = Value.ref a := r1
    obtain ⟨its, _, pl, _⟩ := J1.tuple hx
    exact wpAny_pyIter_tuple (show s1.heap.IsTuple a its.toArray from pl) (pi_one (tk := s1.toks) J1 _ (turn_tuple a _) ⟨_, Heap.get?_push_size _ rfl, rfl, rfl⟩ q1)
  · subst ez
    obtain ⟨tk, rfl⟩ := r1
    cases ha : z.cps.all (· < 128) with
    | false => exact wpAny_pyIter_wide ha (pi_one (tk := s1.toks) J1 _ (turn_str _ z tk "str_iterator" (.inr rfl)) ⟨_, Heap.get?_push_size _ rfl, rfl, rfl⟩ q1)
    | true => exact wpAny_pyIter_ascii ha (pi_one (tk := s1.toks) J1 _ (turn_str _ z tk "str_ascii_iterator" (.inl rfl)) ⟨_, Heap.get?_push_size _ rfl, rfl, rfl⟩ q1)
end
section
variable {L : Lk} {m : Hm} {H : Hp} {a b : Addr} {vs : List V}
theorem it_lst {ds : List D} : ItOk L H (Itl L.F a) ds (fun m2 => m2 a = some (.lst ds)) where
  stop := fun m2 H2 rel h k => let ⟨ws, h1, h2⟩ := rel _ _ h; ⟨ws, SqL.of h1, by rw [h2.length]; exact Nat.le_refl _⟩
  go := fun i x m2 H2 hx rel h k => by
    obtain ⟨ws, h1, h2⟩ := rel _ _ h
    obtain ⟨w, h3, h4⟩ := h2.get hx
    refine ⟨⟨ws, w, SqL.of h1, h3⟩, fun v H3 hy => ?_⟩
    obtain ⟨rfl, hy⟩ := hy
    have h5 := hy ws (SqL.of h1)
    rw [h3] at h5
    cases h5
    exact ⟨h4, rel, .refl _⟩
theorem it_fz {ds : List D} {st : Hm → Prop} (sq : FzL L.F H a vs) (rs : Rps L.F H ds vs) : ItOk L H (Itl L.F a) ds st where
  stop := fun m2 H2 rel h k => ⟨vs, (sq.mono k).sq, by rw [rs.length]; exact Nat.le_refl _⟩
  go := fun i x m2 H2 hx rel h k => by
    obtain ⟨w, h3, h4⟩ := rs.get hx
    refine ⟨⟨vs, w, (sq.mono k).sq, h3⟩, fun v H3 hy => ?_⟩
    obtain ⟨rfl, hy⟩ := hy
    have h5 := hy vs (sq.mono k).sq
    rw [h3] at h5
    cases h5
    exact ⟨h4.mono k, rel, .refl _⟩
theorem it_tup {ds : List D} {st : Hm → Prop} (sq : SqU L.F H a vs) (rs : Rps L.F H ds vs) : ItOk L H (Itt L.F a) ds st where
  stop := fun m2 H2 rel h k => ⟨vs, (sq.mono k).sq, by rw [rs.length]; exact Nat.le_refl _⟩
  go := fun i x m2 H2 hx rel h k => by
    obtain ⟨w, h3, h4⟩ := rs.get hx
    refine ⟨⟨vs, w, (sq.mono k).sq, h3⟩, fun v H3 hy => ?_⟩
    obtain ⟨rfl, hy⟩ := hy
    have h5 := hy vs (sq.mono k).sq
    rw [h3] at h5
    cases h5
    exact ⟨h4.mono k, rel, .refl _⟩
theorem it_str {s : List Nat} {st : Hm → Prop} : ItOk L H (Its (toS s)) (s.map fun c => .str [c]) st where
  stop := fun m2 H2 rel h k => by
    show (toS s).cps.size ≤ _
    rw [List.length_map]
    simp [toS]
  go := fun i x m2 H2 hx rel h k => by
    rw [List.getElem?_map] at hx
    cases e : s[i]? with
    | none => rw [e] at hx; cases hx
    | some c =>
      rw [e] at hx
      cases hx
      have hi : i < s.length := (List.getElem?_eq_some_iff.mp e).1
      refine ⟨by show i < (toS s).cps.size; simp [toS, hi], fun v H3 hy => ?_⟩
      obtain ⟨rfl, c2, h1, rfl⟩ := hy
      have h2 : (toS s).cps[i]? = some c := by simp [toS, e]
      rw [h2] at h1
      cases h1
      exact ⟨.str [c], rel, .refl _⟩
theorem it_rng {lo : Int} {n : Nat} {st : Hm → Prop} : ItOk L H (Itr lo n) (rangeD lo n) st where
  stop := fun m2 H2 rel h k => by
    show n ≤ (rangeD lo n).length
    simp [rangeD]
  go := fun i x m2 H2 hx rel h k => by
    unfold rangeD at hx
    rw [List.getElem?_map] at hx
    cases e : (List.range n)[i]? with
    | none => rw [e] at hx; cases hx
    | some j =>
      rw [e] at hx
      cases hx
      have hi := (List.getElem?_eq_some_iff.mp e).1
      rw [List.length_range] at hi
      have e2 := (List.getElem?_eq_some_iff.mp e).2
      rw [List.getElem_range] at e2
      subst e2
      refine ⟨hi, fun v H3 hy => ?_⟩
      obtain ⟨rfl, rfl⟩ := hy
      exact ⟨.int _, rel, .refl _⟩
theorem it_rngC {lo c : Int} {n : Nat} {st : Hm → Prop} : ItOk L H (Itc lo c n) (rangeC lo c n) st where
  stop := fun m2 H2 rel h k => by
    show n ≤ (rangeC lo c n).length
    simp [rangeC]
  go := fun i x m2 H2 hx rel h k => by
    unfold rangeC at hx
    rw [List.getElem?_map] at hx
    cases e : (List.range n)[i]? with
    | none => rw [e] at hx; cases hx
    | some j =>
      rw [e] at hx
      cases hx
      have hi := (List.getElem?_eq_some_iff.mp e).1
      rw [List.length_range] at hi
      have e2 := (List.getElem?_eq_some_iff.mp e).2
      rw [List.getElem_range] at e2
      subst e2
      refine ⟨hi, fun v H3 hy => ?_⟩
      obtain ⟨rfl, rfl⟩ := hy
      exact ⟨.int _, rel, .refl _⟩
theorem enumD_get : ∀ {xs : List D} {k i : Nat} {x : D}, (enumD k xs)[i]? = some x → ∃ y, xs[i]? = some y ∧ x = .tup [.int ((k + i : Nat) : Int), y]
  | [], k, i, x, h => by simp [enumD] at h
  | y :: ys, k, 0, x, h => by simp [enumD] at h; exact ⟨y, rfl, h.symm⟩
  | y :: ys, k, i + 1, x, h => by
    simp only [enumD, List.getElem?_cons_succ] at h
    obtain ⟨z, h1, h2⟩ := enumD_get h
    exact ⟨z, by rw [List.getElem?_cons_succ]; exact h1, by rw [h2]; congr 4; omega⟩
theorem enumD_len : ∀ (xs : List D) (k : Nat), (enumD k xs).length = xs.length
  | [], _ => rfl
  | _ :: xs, k => by simp [enumD, enumD_len xs]
theorem sc_lst {ds : List D} : ScOk L H (.lst a) ds (fun m2 => m2 a = some (.lst ds)) := ⟨fun m2 H2 rel h _ => let ⟨ws, h1, h2⟩ := rel _ _ h; ⟨ws, SqL.of h1, h2⟩⟩
theorem sc_fz {ds : List D} {st : Hm → Prop} (sq : FzL L.F H a vs) (rs : Rps L.F H ds vs) : ScOk L H (.lst a) ds st := ⟨fun m2 H2 rel h k => ⟨vs, (sq.mono k).sq, rs.mono k⟩⟩
theorem sc_tup {ds : List D} {st : Hm → Prop} (sq : SqU L.F H a vs) (rs : Rps L.F H ds vs) : ScOk L H (.tup a) ds st := ⟨fun m2 H2 rel h k => ⟨vs, (SqU.mono sq k).sq, rs.mono k⟩⟩
theorem strs_rps {F : PySem.W.Frag} {H : Hp} : ∀ s : List Nat, Rps F H (s.map fun c => .str [c]) (s.map fun c => V.str ⟨#[c]⟩)
  | [] => .nil
  | c :: s => .cons (.str [c]) (strs_rps s)
theorem sc_str {s : List Nat} {st : Hm → Prop} : ScOk L H (.txt (toS s)) (s.map fun c => .str [c]) st := ⟨fun m2 H2 rel h k => ⟨_, rfl, by
  rw [toS_list]
  exact strs_rps s⟩⟩
/-- the pairs of enumerate -/
theorem it_enumZ {A : Sc} {ds : List D} {st : Hm → Prop} (ok : ScOk L H A ds st) : ItOk L H (ItE L.F A) (enumD 0 ds) st where
  stop := fun m2 H2 rel h k => let ⟨ws, h1, h2⟩ := ok.now m2 H2 rel h k; ⟨ws, h1, by rw [enumD_len, h2.length]⟩
  go := fun i x m2 H2 hx rel h k => by
    obtain ⟨ws, h1, h2⟩ := ok.now m2 H2 rel h k
    obtain ⟨y, e1, e2⟩ := enumD_get hx
    obtain ⟨w, h3, h4⟩ := h2.get e1
    refine ⟨⟨ws, w, h1, h3⟩, fun v H3 hy => ?_⟩
    obtain ⟨T, z, o, rfl, hT, hd, rfl, hz⟩ := hy
    have h5 := hz ws h1
    rw [h3] at h5
    cases h5
    have kp : Kp H2 (upd H2 T (.frz o (.tup [.int ((i : Nat) : Int), w]))) := .new hT
    rw [e2, Nat.zero_add]
    exact ⟨.tup (.inl ⟨o, upd_same, hd⟩) (.cons (.int _) (.cons (h4.mono kp) .nil)), rel.hide hT, kp⟩
theorem zipD_get : ∀ {xs ys : List D} {i : Nat} {x : D}, (zipD xs ys)[i]? = some x → ∃ y z, xs[i]? = some y ∧ ys[i]? = some z ∧ x = .tup [y, z]
  | [], _, i, x, h => by simp [zipD] at h
  | _ :: _, [], i, x, h => by simp [zipD] at h
  | y :: ys, z :: zs, 0, x, h => by simp [zipD] at h; exact ⟨y, z, rfl, rfl, h.symm⟩
  | y :: ys, z :: zs, i + 1, x, h => by
    simp only [zipD, List.getElem?_cons_succ] at h
    obtain ⟨u, v, h1, h2, h3⟩ := zipD_get h
    exact ⟨u, v, by rw [List.getElem?_cons_succ]; exact h1, by rw [List.getElem?_cons_succ]; exact h2, h3⟩
theorem zipD_len : ∀ (xs ys : List D), (zipD xs ys).length = min xs.length ys.length
  | [], _ => by simp [zipD]
  | _ :: _, [] => by simp [zipD]
  | _ :: xs, _ :: ys => by simp [zipD, zipD_len xs ys]
theorem it_zipZ {A B : Sc} {ds es : List D} {s1 s2 : Hm → Prop} (oa : ScOk L H A ds s1) (ob : ScOk L H B es s2) : ItOk L H (ItP L.F A B) (zipD ds es) (fun m2 => s1 m2 ∧ s2 m2) where
  stop := fun m2 H2 rel h k => by
    obtain ⟨ws, h1, h2⟩ := oa.now m2 H2 rel h.1 k
    obtain ⟨us, h3, h4⟩ := ob.now m2 H2 rel h.2 k
    refine ⟨ws, us, h1, h3, ?_⟩
    rw [zipD_len, ← h2.length, ← h4.length]
    omega
  go := fun i x m2 H2 hx rel h k => by
    obtain ⟨ws, h1, h2⟩ := oa.now m2 H2 rel h.1 k
    obtain ⟨us, h3, h4⟩ := ob.now m2 H2 rel h.2 k
    obtain ⟨y, z, e1, e2, e3⟩ := zipD_get hx
    obtain ⟨w, g1, g2⟩ := h2.get e1
    obtain ⟨u, g3, g4⟩ := h4.get e2
    refine ⟨⟨ws, us, w, u, h1, h3, g1, g3⟩, fun v H3 hy => ?_⟩
    obtain ⟨T, p, q, o, rfl, hT, hd, rfl, hp, hq⟩ := hy
    have h5 := hp ws h1
    have h6 := hq us h3
    rw [g1] at h5
    rw [g3] at h6
    cases h5
    cases h6
    have kp : Kp H2 (upd H2 T (.frz o (.tup [w, u]))) := .new hT
    subst e3
    exact ⟨.tup (.inl ⟨o, upd_same, hd⟩) (.cons (g2.mono kp) (.cons (g4.mono kp) .nil)), rel.hide hT, kp⟩
end
end Mn
end

section
set_option Elab.async false
set_option linter.all false
set_option maxRecDepth 100000
set_option maxHeartbeats 4000000
namespace Mn
open PySem PySem.Spec PyProof.Rows L2 RZ
section
variable {X : Cx} {a b c : Expr} {ta tb tc : TE} {tA tB' : TT} {rest : List Expr} {pos : Pos}
def tru (K : PySem.W.Frag) (Q : Bool → Hp → Prop) : VK := fun x H => ∃ k, TruV K x H k ∧ Q k H
theorem pe_andU (ha : PE X a ta) (hb : PE X (.BoolOp .And (b :: rest) pos) tb) : PE X (.BoolOp .And (a :: b :: rest) pos) (fun σ H Q => ta σ H fun x H1 => ∃ k, TruV X.K x H1 k ∧ if k = true then tb σ H1 Q else Q x H1) :=
  ⟨fun pins s σ H Q J h => BoolOp_and (thn (ha.run pins s σ H _ J h) fun v s1 ⟨x, H1, J1, r1, k, e, q1⟩ =>
    thn (tru_ok pins s1 σ H1 x v (fun k' H2 => k' = k ∧ H2 = H1) J1 r1 ⟨k, e, rfl, rfl⟩) fun k' s2 ⟨H2, J2, e1, e2⟩ => by
      subst e1 e2
      cases k' with
      | true => exact hb.run pins s2 σ H2 Q J2 q1
      | false => exact ⟨x, H2, J2, r1, q1⟩)⟩
theorem pe_orU (ha : PE X a ta) (hb : PE X (.BoolOp .Or (b :: rest) pos) tb) : PE X (.BoolOp .Or (a :: b :: rest) pos) (fun σ H Q => ta σ H fun x H1 => ∃ k, TruV X.K x H1 k ∧ if k = true then Q x H1 else tb σ H1 Q) :=
  ⟨fun pins s σ H Q J h => BoolOp_or (thn (ha.run pins s σ H _ J h) fun v s1 ⟨x, H1, J1, r1, k, e, q1⟩ =>
    thn (tru_ok pins s1 σ H1 x v (fun k' H2 => k' = k ∧ H2 = H1) J1 r1 ⟨k, e, rfl, rfl⟩) fun k' s2 ⟨H2, J2, e1, e2⟩ => by
      subst e1 e2
      cases k' with
      | false => exact hb.run pins s2 σ H2 Q J2 q1
      | true => exact ⟨x, H2, J2, r1, q1⟩)⟩
theorem pe_notU (ha : PE X a ta) : PE X (.UnaryOp .Not a pos) (fun σ H Q => ta σ H fun x H1 => ∃ k, TruV X.K x H1 k ∧ Q (.bl (!k)) H1) :=
  ⟨fun pins s σ H Q J h => UnaryOp_ (thn (ha.run pins s σ H _ J h) fun v s1 ⟨x, H1, J1, r1, k, e, q1⟩ =>
    not_of (thn (tru_ok pins s1 σ H1 x v (fun k' H2 => Q (.bl (!k')) H2) J1 r1 ⟨k, e, q1⟩) fun k' s2 ⟨H2, J2, e2⟩ => ⟨.bl (!k'), H2, J2, rfl, e2⟩))⟩
theorem pt_ifU (hc : PT X c tA) (ha : PT X a tB') {tC : TT} (hb : PT X b tC) : PT X (.IfExp c a b pos) (fun σ H Q => tA σ H fun k H1 => if k = true then tB' σ H1 Q else tC σ H1 Q) :=
  ⟨fun pins s σ H Q J h => isTrue_IfExp (thn (hc.run pins s σ H _ J h) fun k s1 ⟨H1, J1, q1⟩ => by
    cases k with
    | true => exact ha.run pins s1 σ H1 Q J1 q1
    | false => exact hb.run pins s1 σ H1 Q J1 q1)⟩
theorem pt_cmpU {op : CmpOp} {r : R2} (ho : OpR X (compareOp op) r) (ha : PE X a ta) (hb : PE X b tb) (hm : behindInMarks op b = false) : PT X (.Compare a [op] [b] pos) (fun σ H Q => tOp r ta tb σ H (tru X.K Q)) :=
  ⟨fun pins s σ H Q J h => wpAny_isTrue_Compare1 (thn (ha.run pins s σ H _ J h) fun v s1 ⟨x, H1, J1, r1, q1⟩ => thn (hb.run pins s1 σ H1 _ J1 q1) fun u s2 ⟨y, H2, J2, r2, q2⟩ =>
    thn (ho pins s2 σ H2 x y v u _ J2 r1 r2 q2) fun w s3 ⟨z, H3, J3, r3, q3⟩ => tru_ok pins s3 σ H3 z w Q J3 r3 q3) hm⟩
theorem pt_chainU {op op' : CmpOp} {r r' : R2} (ho : OpR X (compareOp op) r) (ho' : OpR X (compareOp op') r') (ha : PE X a ta) (hb : PE X b tb) (hc : PE X c tc)
    (hm : lastMarks [op, op'] [b, c] = false) : PT X (.Compare a [op, op'] [b, c] pos) (fun σ H Q => ta σ H fun x H1 => tb σ H1 fun y H2 => r x y H2 fun z H3 => ∃ k, z = .bl k ∧
      if k = true then tc σ H3 fun w H4 => r' y w H4 (tru X.K Q) else Q false H3) := by
  constructor
  intro pins s σ H Q J h
  refine isTrue_chain (thn (ha.run pins s σ H _ J h) fun v s1 ⟨x, H1, J1, r1, q1⟩ => test_link (thn (hb.run pins s1 σ H1 _ J1 q1) fun u s2 ⟨y, H2, J2, r2, q2⟩ =>
    thn (ho pins s2 σ H2 x y v u _ J2 r1 r2 q2) fun d s3 ⟨z, H3, J3, r3, k, e, q3⟩ => ?_)) hm
  subst e
  cases r3
  refine wpAny_truthy_bool ?_
  cases k with
  | false => exact ite_ff ⟨H3, J3, q3⟩
  | true => exact ite_tt (test_last (thn (hc.run pins s3 σ H3 _ J3 q3) fun w' s4 ⟨z2, H4, J4, r4, q4⟩ => thn (ho' pins s4 σ H4 y z2 u w' _ J4 r2 r4 q4) fun d2 s5 ⟨z5, H5, J5, r5, q5⟩ =>
      tru_ok pins s5 σ H5 z5 d2 Q J5 r5 q5))
end
section
variable {exc : Nat → Option Addr} {L : Lk} {t : Tab} {n : Dn} {C : Nm} {N : List Str} {sc : Scope} {X : Cx} {W : WX}
abbrev WpE := XD → Mn.Env → Hm → PD → Prop
theorem LE.seq {w wa : WpE} {σ : L2.St} {H : Hp} {Q : VK} {R : VK} (q : LE exc L W w σ H Q) {k : XD → Mn.Env → PD → PD} (hw : ∀ Xd r m P, w Xd r m P → wa Xd r m (k Xd r P))
    (hk : ∀ Xd r P x m v H1, REnv L.F H1 r σ → Rel L m H1 → XL exc L W H1 Xd → Kt L H1 P Q → k Xd r P x m → Rp L.F H1 x v → R v H1) : LE exc L W wa σ H R := by
  obtain ⟨r, m, P, Xd, re, rel, h, q, xl⟩ := q
  exact ⟨r, m, k Xd r P, Xd, re, rel, hw _ _ _ _ h, fun d m2 v H2 hp rv rel2 k2 => hk Xd r P d m2 v H2 (re.mono k2) rel2 (xl.mono k2) (q.mono k2) hp rv, xl⟩
theorem LE.go {wa : WpE} {σ : L2.St} {H : Hp} {R : VK} {Xd : XD} {r : Mn.Env} {m : Hm} {P : PD} (re : REnv L.F H r σ) (rel : Rel L m H) (xl : XL exc L W H Xd) (h : wa Xd r m P)
    (hk : ∀ d m2 v H2, P d m2 → Rp L.F H2 d v → Rel L m2 H2 → Kp H H2 → R v H2) : LE exc L W wa σ H R := ⟨r, m, P, Xd, re, rel, h, hk, xl⟩
/-- what a test wants -/
def Ktt (L : Lk) (H : Hp) (P : PD) (Q : Bool → Hp → Prop) : Prop := ∀ x m2 v H2, P x m2 → Rp L.F H2 x v → Rel L m2 H2 → Kp H H2 → ∃ b, truth m2 x = some b ∧ Q b H2
theorem Ktt.mono {H H2 : Hp} {P : PD} {Q : Bool → Hp → Prop} (q : Ktt L H P Q) (k : Kp H H2) : Ktt L H2 P Q := fun x m2 v H3 h r rel k3 => q x m2 v H3 h r rel (k.trans k3)
theorem Ktt.kt {H : Hp} {P : PD} {Q : Bool → Hp → Prop} (q : Ktt L H P Q) : Kt L H P (tru L.F Q) := fun d m v H2 h r rel k => let ⟨b, e, z⟩ := q d m v H2 h r rel k; ⟨b, truth_ok e r rel, z⟩
theorem LB.seq {w wa : WpE} {σ : L2.St} {H : Hp} {Q : Bool → Hp → Prop} {R : VK} (q : LB exc L W w σ H Q) {k : XD → Mn.Env → PD → PD} (hw : ∀ Xd r m P, w Xd r m P → wa Xd r m (k Xd r P))
    (hk : ∀ Xd r P x m v H1, REnv L.F H1 r σ → Rel L m H1 → XL exc L W H1 Xd → Ktt L H1 P Q → k Xd r P x m → Rp L.F H1 x v → R v H1) : LE exc L W wa σ H R := by
  obtain ⟨r, m, P, Xd, re, rel, h, q, xl⟩ := q
  exact ⟨r, m, k Xd r P, Xd, re, rel, hw _ _ _ _ h, fun d m2 v H2 hp rv rel2 k2 => hk Xd r P d m2 v H2 (re.mono k2) rel2 (xl.mono k2) (Ktt.mono q k2) hp rv, xl⟩
theorem pt_of (hk : X.K = L.F) {pe : Expr} {w : WpE} (h : PE X pe (LE exc L W w)) (he : ptp pe = true) : PT X pe (LB exc L W w) := by
  have h2 := pt_truth h (ptp_ok he X.env)
  rw [hk] at h2
  exact Mn.PT.weak h2 fun σ H Q ⟨r, m, P, Xd, re, rel, hw, q, xl⟩ => ⟨r, m, P, Xd, re, rel, hw, Ktt.kt q, xl⟩
/-- an expression: as a value, as a test -/
def OkE (exc : Nat → Option Addr) (L : Lk) (X : Cx) (W : WX) (w : WpE) (pe : Expr) : Prop := PE X pe (LE exc L W w) ∧ PT X pe (LB exc L W w)
theorem OkE.of (hk : X.K = L.F) {pe : Expr} {w : WpE} (he : ptp pe = true) (h : PE X pe (LE exc L W w)) : OkE exc L X W w pe := ⟨h, pt_of hk h he⟩
/-- an expression's term fits -/
def GoE (exc : Nat → Option Addr) (L : Lk) (t : Tab) (n : Dn) (C : Nm) (N : List Str) (e : E) : Prop := ∀ (sc : Scope) (X : Cx) (W : WX) (pe : Expr), mE C N e sc pe = true → Ctx exc L t n C N sc X → Tk (SX exc) X W → OkE exc L X W (wpE (sgh t n) e) pe
def GoO (exc : Nat → Option Addr) (L : Lk) (t : Tab) (n : Dn) (C : Nm) (N : List Str) (e : O) : Prop := ∀ (sc : Scope) (X : Cx) (W : WX) (pe : Option Expr), mO C N e sc pe = true → Ctx exc L t n C N sc X → Tk (SX exc) X W → PO X pe (LO exc L W (wpO (sgh t n) e))
def GoEs (exc : Nat → Option Addr) (L : Lk) (t : Tab) (n : Dn) (C : Nm) (N : List Str) (e : Es) : Prop := ∀ (sc : Scope) (X : Cx) (W : WX) (ps : List Expr), mEs C N e sc ps = true → Ctx exc L t n C N sc X → Tk (SX exc) X W → OkEs exc L X W (sgh t n) e ps
def GoI (exc : Nat → Option Addr) (L : Lk) (t : Tab) (n : Dn) (C : Nm) (N : List Str) (e : I) : Prop := ∀ (sc : Scope) (X : Cx) (W : WX) (tg pe : Expr), mI C N e sc tg pe = true → Ctx exc L t n C N sc X → Tk (SX exc) X W → PI X tg pe (LI exc L W (wpI (sgh t n) e))
section
variable (cx : Ctx exc L t n C N sc X)
include cx
theorem Ctx.k : X.K = L.F := cx.sta.k
theorem Ctx.vis {x : Str} (h : vis sc x = true) : Vis X.env.scope x := by
  rw [cx.sc]
  unfold Mn.vis at h
  split at h <;> first | exact .inl (by assumption) | exact .inr (.inl (by assumption)) | exact .inr (.inr (by assumption)) | cases h
theorem Ctx.gl {x : Str} (h : glb sc x = true) : Gl X x := by
  show X.env.scope.names.lookup x = _
  rw [cx.sc]
  unfold Mn.glb at h
  split at h
  · assumption
  · cases h
theorem Ctx.un : X.A.units + 65 < cLine := by have := cx.roomH.un; omega
end
theorem okx_d {x : Str} (h : okx x = true) : (x == ("__debug__" : Str)) = false ∧ (x == ("__classdict__" : Str)) = false := by
  unfold okx at h
  simpa only [Bool.and_eq_true, Bool.not_eq_true'] using h
theorem g_var (i : Nat) : GoE exc L t n C N (.var i) := fun sc X W pe hm cx tk => by
  simp only [mE] at hm
  split at hm
  · simp only [Bool.and_eq_true, decide_eq_true_eq] at hm
    obtain ⟨⟨h1, h2⟩, h3⟩ := hm
    refine .of cx.k rfl (PE.weak (pe_var (i := i) (by rw [cx.nn]; exact h1) (cx.vis h2) (okx_d h3).1 (okx_d h3).2) fun σ H Q ⟨r, m, P, Xd, re, rel, hw, q, xl⟩ => ?_)
    obtain ⟨d, hd, hp⟩ := (show ∃ d, vget r i = some d ∧ P d m from hw)
    obtain ⟨v, hv, rv⟩ := re.2 _ _ hd
    exact ⟨v, hv, q.here hp rv rel⟩
  · cases hm
theorem g_non : GoE exc L t n C N .non := fun sc X W pe hm cx tk => by
  simp only [mE] at hm
  split at hm
  · exact .of cx.k rfl (PE.weak pe_non fun σ H Q ⟨r, m, P, Xd, re, rel, hw, q, xl⟩ => q.here hw .non rel)
  · cases hm
theorem g_bl (b : Bool) : GoE exc L t n C N (.bl b) := fun sc X W pe hm cx tk => by
  simp only [mE] at hm
  split at hm
  · rw [beq_iff_eq] at hm
    subst hm
    exact .of cx.k rfl (PE.weak pe_bl fun σ H Q ⟨r, m, P, Xd, re, rel, hw, q, xl⟩ => q.here hw (.bl _) rel)
  · cases hm
theorem g_num (i : Int) : GoE exc L t n C N (.num i) := fun sc X W pe hm cx tk => by
  simp only [mE] at hm
  split at hm
  · rw [decide_eq_true_eq] at hm
    subst hm
    exact .of cx.k rfl (PE.weak pe_int fun σ H Q ⟨r, m, P, Xd, re, rel, hw, q, xl⟩ => q.here hw (.int _) rel)
  · cases hm
theorem g_txt (s : List Nat) : GoE exc L t n C N (.txt s) := fun sc X W pe hm cx tk => by
  simp only [mE] at hm
  split at hm
  · rw [decide_eq_true_eq] at hm
    subst hm
    exact .of cx.k rfl (PE.weak pe_str fun σ H Q ⟨r, m, P, Xd, re, rel, hw, q, xl⟩ => q.here hw (.str _) rel)
  · cases hm
theorem g_glob (k : Nat) (d : D) : GoE exc L t n C N (.glob k d) := fun sc X W pe hm cx tk => by
  simp only [mE] at hm
  split at hm
  · simp only [Bool.and_eq_true, decide_eq_true_eq] at hm
    obtain ⟨⟨⟨h1, h2⟩, h3⟩, h4⟩ := hm
    obtain ⟨v, u, hu, rv, hr⟩ := cx.sta.con k d h4
    rw [h1] at hu
    exact .of cx.k rfl (PE.weak (pe_glob (cx.gl h2) hu rv (okx_d h3).1) fun σ H Q ⟨r, m, P, Xd, re, rel, hw, q, xl⟩ => q.here hw (hr H) rel)
  · cases hm
theorem g_bin {a b : E} (op : Bop) (ga : GoE exc L t n C N a) (gb : GoE exc L t n C N b) : GoE exc L t n C N (.bin op a b) := fun sc X W pe hm cx tk => by
  simp only [mE] at hm
  split at hm
  · simp only [Bool.and_eq_true, decide_eq_true_eq] at hm
    obtain ⟨⟨h1, h2⟩, h3⟩ := hm
    subst h1
    have h := pe_op (pos := ‹Pos›) (binS op) (ga _ _ _ _ h2 cx tk).1 (gb _ _ _ _ h3 cx tk).1
    rw [cx.k] at h
    refine .of cx.k rfl (PE.weak h fun σ H Q q => q.seq (k := fun Xd r P x m1 => wpE (sgh t n) b Xd r m1 fun y m2 => binW op x y m2 P) (fun _ _ _ _ h => h) fun Xd r P x m1 v H1 re rel xl q h rv =>
      .go re rel xl h fun y m2 u H2 h2 ru rel2 k2 => bin_ok h2 (rv.mono k2) ru rel2 (q.mono k2))
  · cases hm
theorem g_neg {a : E} (ga : GoE exc L t n C N a) : GoE exc L t n C N (.neg a) := fun sc X W pe hm cx tk => by
  simp only [mE] at hm
  split at hm
  · refine .of cx.k rfl (PE.weak (pe_un un_neg (ga _ _ _ _ hm cx tk).1) fun σ H Q q => q.seq (k := fun Xd r P x m1 => match x with | .int i => P (.int (-i)) m1 | _ => False) (fun _ _ _ _ h => h) fun Xd r P x m1 v H1 re rel xl q h rv => ?_)
    cases rv <;> first | exact ⟨_, rfl, q.here h (.int _) rel⟩ | exact h.elim
  · cases hm
theorem g_cmp {a b : E} (op : Cop) (ga : GoE exc L t n C N a) (gb : GoE exc L t n C N b) : GoE exc L t n C N (.cmp op a b) := fun sc X W pe hm cx tk => by
  simp only [mE] at hm
  split at hm
  · simp only [Bool.and_eq_true, decide_eq_true_eq] at hm
    obtain ⟨⟨⟨h1, h2⟩, h3⟩, h4⟩ := hm
    subst h1
    have h := pe_cmpR (pos := ‹Pos›) (cmpS cx.k cx.sta.w cx.un op) (ga _ _ _ _ h3 cx tk).1 (gb _ _ _ _ h4 cx tk).1 (mark_ok h2 _)
    have g := pt_cmpU (pos := ‹Pos›) (cmpS cx.k cx.sta.w cx.un op) (ga _ _ _ _ h3 cx tk).1 (gb _ _ _ _ h4 cx tk).1 (mark_ok h2 _)
    rw [cx.k] at g
    refine ⟨PE.weak h fun σ H Q q => q.seq (k := fun Xd r P x m1 => wpE (sgh t n) b Xd r m1 fun y m2 => cmpW op x y m2 P) (fun _ _ _ _ h => h) fun Xd r P x m1 v H1 re rel xl q h rv =>
      .go re rel xl h fun y m2 u H2 h2 ru rel2 k2 => cmp_ok h2 (rv.mono k2) ru rel2 (q.mono k2), PT.weak g fun σ H Q q => ?_⟩
    exact q.seq (k := fun Xd r P x m1 => wpE (sgh t n) b Xd r m1 fun y m2 => cmpW op x y m2 P) (fun _ _ _ _ h => h) fun Xd r P x m1 v H1 re rel xl q h rv =>
      .go re rel xl h fun y m2 u H2 h2 ru rel2 k2 => cmp_ok h2 (rv.mono k2) ru rel2 (Ktt.kt q |>.mono k2)
  · cases hm
theorem g_cmp2 {a b c : E} (op op2 : Cop) (ga : GoE exc L t n C N a) (gb : GoE exc L t n C N b) (gc : GoE exc L t n C N c) : GoE exc L t n C N (.cmp2 op op2 a b c) := fun sc X W pe hm cx tk => by
  simp only [mE] at hm
  split at hm
  · simp only [Bool.and_eq_true, decide_eq_true_eq] at hm
    obtain ⟨⟨⟨⟨⟨⟨h1, h2⟩, h3⟩, h4⟩, h5⟩, h6⟩, h7⟩ := hm
    subst h1 h2
    have lm : ∀ x y : Expr, noset y = true → lastMarks [copO op, copO op2] [x, y] = false := fun x y hy => by
      show behindInMarks (copO op2) y = false
      exact mark_ok hy _
    have h := pe_chain (pos := ‹Pos›) (cmpS cx.k cx.sta.w cx.un op) (cmpS cx.k cx.sta.w cx.un op2) (ga _ _ _ _ h5 cx tk).1 (gb _ _ _ _ h6 cx tk).1 (gc _ _ _ _ h7 cx tk).1 (lm _ _ h4)
    have g := pt_chainU (pos := ‹Pos›) (cmpS cx.k cx.sta.w cx.un op) (cmpS cx.k cx.sta.w cx.un op2) (ga _ _ _ _ h5 cx tk).1 (gb _ _ _ _ h6 cx tk).1 (gc _ _ _ _ h7 cx tk).1 (lm _ _ h4)
    rw [cx.k] at g
    refine ⟨PE.weak h fun σ H Q q => ?_, PT.weak g fun σ H Q q => ?_⟩
    · refine q.seq (k := fun Xd r P x m1 => wpE (sgh t n) b Xd r m1 fun y m2 => cmpW op x y m2 fun z m3 => match z with
        | .bl k => if k = true then wpE (sgh t n) c Xd r m3 fun w m4 => cmpW op2 y w m4 P else P (.bl false) m3
        | _ => False) (fun _ _ _ _ h => h) fun Xd r P x m1 v H1 re rel xl q h rv =>
        .go re rel xl h fun y m2 u H2 h2 ru rel2 k2 => cmp_ok h2 (rv.mono k2) ru rel2 fun z m3 w H3 h3 rw_ rel3 k3 => ?_
      cases rw_ with
      | bl k =>
        refine ⟨k, rfl, ?_⟩
        cases k with
        | true => exact .go (re.mono (k2.trans k3)) rel3 (xl.mono (k2.trans k3)) h3 fun y2 m4 u2 H4 h4 ru2 rel4 k4 => cmp_ok h4 (ru.mono (k3.trans k4)) ru2 rel4 (q.mono (k2.trans (k3.trans k4)))
        | false => exact (q.mono (k2.trans k3)).here h3 (.bl false) rel3
      | _ => exact h3.elim
    · refine q.seq (k := fun Xd r P x m1 => wpE (sgh t n) b Xd r m1 fun y m2 => cmpW op x y m2 fun z m3 => match z with
        | .bl k => if k = true then wpE (sgh t n) c Xd r m3 fun w m4 => cmpW op2 y w m4 P else P (.bl false) m3
        | _ => False) (fun _ _ _ _ h => h) fun Xd r P x m1 v H1 re rel xl q h rv =>
        .go re rel xl h fun y m2 u H2 h2 ru rel2 k2 => cmp_ok h2 (rv.mono k2) ru rel2 fun z m3 w H3 h3 rw_ rel3 k3 => ?_
      cases rw_ with
      | bl k =>
        refine ⟨k, rfl, ?_⟩
        cases k with
        | true => exact .go (re.mono (k2.trans k3)) rel3 (xl.mono (k2.trans k3)) h3 fun y2 m4 u2 H4 h4 ru2 rel4 k4 => cmp_ok h4 (ru.mono (k3.trans k4)) ru2 rel4 ((Ktt.kt q).mono (k2.trans (k3.trans k4)))
        | false =>
          obtain ⟨b, e, z⟩ := (q.mono (k2.trans k3)) _ _ _ _ h3 (.bl false) rel3 (.refl _)
          cases e
          exact z
      | _ => exact h3.elim
  · cases hm
end
end Mn
end

section
set_option Elab.async false
set_option linter.all false
set_option maxRecDepth 100000
set_option maxHeartbeats 4000000
namespace Mn
open PySem PySem.Spec PyProof.Rows L2 RZ
section
variable {exc : Nat → Option Addr} {L : Lk} {t : Tab} {n : Dn} {C : Nm} {N : List Str} {sc : Scope} {X : Cx} {W : WX}
abbrev WpEs := XD → Mn.Env → Hm → (List D → Hm → Prop) → Prop
theorem PE.nev {e : Expr} : PE X e (fun _ _ _ => False) := ⟨fun _ _ _ _ _ _ h => h.elim⟩
theorem LA.go {k : Nat} {wa : WpEs} {σ : L2.St} {H : Hp} {R : List V → Hp → Prop} {Xd : XD} {r : Mn.Env} {m : Hm} {P : List D → Hm → Prop} (re : REnv L.F H r σ) (rel : Rel L m H) (xl : XL exc L W H Xd) (h : wa Xd r m P)
    (hk : ∀ xs m2 vs H2, P xs m2 → Rps L.F H2 xs vs → Rel L m2 H2 → Kp H H2 → R vs H2) : LA exc L W k wa σ H R := ⟨r, m, P, Xd, re, rel, h, fun xs m2 vs H2 _ hp rs rel2 k2 => hk xs m2 vs H2 hp rs rel2 k2, xl⟩
theorem LE.args {k : Nat} {w : WpE} {wa : WpEs} {σ : L2.St} {H : Hp} {Q : VK} {R : List V → Hp → Prop} (q : LE exc L W w σ H Q) {kk : XD → Mn.Env → PD → List D → Hm → Prop} (hw : ∀ Xd r m P, w Xd r m P → wa Xd r m (kk Xd r P))
    (hk : ∀ Xd r P xs m vs H1, xs.length = k → REnv L.F H1 r σ → Rel L m H1 → XL exc L W H1 Xd → Kt L H1 P Q → kk Xd r P xs m → Rps L.F H1 xs vs → R vs H1) : LA exc L W k wa σ H R := by
  obtain ⟨r, m, P, Xd, re, rel, h, q, xl⟩ := q
  exact ⟨r, m, kk Xd r P, Xd, re, rel, hw _ _ _ _ h, fun d m2 v H2 hl hp rv rel2 k2 => hk Xd r P d m2 v H2 hl (re.mono k2) rel2 (xl.mono k2) (q.mono k2) hp rv, xl⟩
theorem g_nil : GoEs exc L t n C N .nil := fun sc X W ps hm cx tk => by
  cases ps with
  | nil =>
    exact ⟨PA.weak pa_nil fun σ H Q ⟨r, m, P, Xd, re, rel, hw, q, xl⟩ => q [] m [] H rfl hw .nil rel (.refl H), rfl, fun z => absurd rfl z, fun z => absurd rfl z⟩
  | cons _ _ => simp [mEs] at hm
theorem g_cons {e : E} {es : Es} (ge : GoE exc L t n C N e) (gs : GoEs exc L t n C N es) : GoEs exc L t n C N (.cons e es) := fun sc X W ps hm cx tk => by
  cases ps with
  | nil => simp [mEs] at hm
  | cons p ps =>
    simp only [mEs, Bool.and_eq_true] at hm
    have h1 := ge _ _ _ _ hm.1 cx tk
    have h2 := gs _ _ _ _ hm.2 cx tk
    have hst : starEach (p :: ps) X.env = (false, eval p X.env) :: starEach ps X.env ∨ ∃ a b, p = .Starred a b := by
      cases p <;> first | exact .inl rfl | exact .inr ⟨_, _, rfl⟩
    have hns : starEach (p :: ps) X.env = (false, eval p X.env) :: starEach ps X.env := by
      rcases hst with h | ⟨a, b, rfl⟩
      · exact h
      · have := hm.1
        cases e <;> simp [mE] at this
    refine ⟨PA.weak (pa_cons h1.1 h2.pa hns) fun σ H Q ⟨r, m, P, Xd, re, rel, hw, q, xl⟩ => ?_, by simp only [List.length_cons, lenE, h2.len], fun _ pos => ?_, fun _ pos => ?_⟩
    · exact .go re rel xl (show wpE (sgh t n) e Xd r m fun d m1 => wpEs (sgh t n) es Xd r m1 fun ds m2 => P (d :: ds) m2 from hw) fun d m2 v H2 hp rv rel2 k2 =>
        ⟨r, m2, _, Xd, re.mono k2, rel2, hp, fun xs m3 vs H3 hl hp3 rs rel3 k3 => q (d :: xs) m3 (v :: vs) H3 (by simp only [List.length_cons, lenE, hl]) hp3 (.cons (rv.mono k3) rs) rel3 (k2.trans k3), xl.mono k2⟩
    · cases ps with
      | nil =>
        cases es with
        | cons _ _ => simp [mEs] at hm
        | nil => exact ⟨PE.weak (pe_one h1.1) fun σ H Q q => q, PW.weak (pw_and1 h1.2) fun σ H Q q => q⟩
      | cons p2 ps =>
        cases es with
        | nil => simp [mEs] at hm
        | cons e2 es =>
          have h3 := h2.an (by simp) pos
          have g := pe_andU (pos := pos) h1.1 h3.1
          rw [cx.k] at g
          refine ⟨PE.weak g fun σ H Q q => q.seq (k := fun Xd r P x m1 => ∃ b, truth m1 x = some b ∧ if b = true then wpAnd (sgh t n) (.cons e2 es) Xd r m1 P else P x m1) (fun _ _ _ _ h => h) fun Xd r P x m1 v H1 re rel xl q ⟨b, hb, h⟩ rv => ⟨b, truth_ok hb rv rel, ?_⟩,
            PW.weak (pw_and h1.2 h3.2) fun σ H Q ⟨r, m, P, Xd, re, rel, hw, q, xl⟩ => ?_⟩
          · cases b with
            | true => exact ⟨r, m1, P, Xd, re, rel, h, q, xl⟩
            | false => exact q.here h rv rel
          · refine ⟨r, m, fun x m1 => ∃ b, truth m1 x = some b ∧ if b = true then wpAnd (sgh t n) (.cons e2 es) Xd r m1 P else P x m1, Xd, re, rel, hw, fun x m2 v H2 ⟨b, hb, h⟩ rv rel2 k2 => ⟨b, hb, ?_⟩, xl⟩
            cases b with
            | true => exact ⟨r, m2, P, Xd, re.mono k2, rel2, h, Ktt.mono q k2, xl.mono k2⟩
            | false =>
              obtain ⟨b2, e3, z⟩ := q x m2 v H2 h rv rel2 k2
              rw [hb] at e3
              cases e3
              exact z
    · cases ps with
      | nil =>
        cases es with
        | cons _ _ => simp [mEs] at hm
        | nil => exact ⟨PE.weak (pe_one h1.1) fun σ H Q q => q, PW.weak (pw_or1 h1.2) fun σ H Q q => q⟩
      | cons p2 ps =>
        cases es with
        | nil => simp [mEs] at hm
        | cons e2 es =>
          have h3 := h2.or (by simp) pos
          have g := pe_orU (pos := pos) h1.1 h3.1
          rw [cx.k] at g
          refine ⟨PE.weak g fun σ H Q q => q.seq (k := fun Xd r P x m1 => ∃ b, truth m1 x = some b ∧ if b = true then P x m1 else wpOr (sgh t n) (.cons e2 es) Xd r m1 P) (fun _ _ _ _ h => h) fun Xd r P x m1 v H1 re rel xl q ⟨b, hb, h⟩ rv => ⟨b, truth_ok hb rv rel, ?_⟩,
            PW.weak (pw_or h1.2 h3.2) fun σ H Q ⟨r, m, P, Xd, re, rel, hw, q, xl⟩ => ?_⟩
          · cases b with
            | false => exact ⟨r, m1, P, Xd, re, rel, h, q, xl⟩
            | true => exact q.here h rv rel
          · refine ⟨r, m, fun x m1 => ∃ b, truth m1 x = some b ∧ if b = true then P x m1 else wpOr (sgh t n) (.cons e2 es) Xd r m1 P, Xd, re, rel, hw, fun x m2 v H2 ⟨b, hb, h⟩ rv rel2 k2 => ⟨b, hb, ?_⟩, xl⟩
            cases b with
            | false => exact ⟨r, m2, P, Xd, re.mono k2, rel2, h, Ktt.mono q k2, xl.mono k2⟩
            | true =>
              obtain ⟨b2, e3, z⟩ := q x m2 v H2 h rv rel2 k2
              rw [hb] at e3
              cases e3
              exact z
theorem g_and {es : Es} (gs : GoEs exc L t n C N es) : GoE exc L t n C N (.and_ es) := fun sc X W pe hm cx tk => by
  simp only [mE] at hm
  split at hm
  · rename_i vs _
    cases vs with
    | nil => 
      have := gs _ _ _ _ hm cx tk
      have h0 := this.len
      cases es with
      | nil => exact ⟨PE.weak PE.nev fun σ H Q ⟨r, m, P, Xd, re, rel, hw, q, xl⟩ => hw, ⟨fun _ _ _ _ _ _ ⟨r, m, P, Xd, re, rel, hw, q, xl⟩ => False.elim hw⟩⟩
      | cons _ _ => simp [lenE] at h0
    | cons v vs =>
      have h := (gs _ _ _ _ hm cx tk).an (by simp) ‹Pos›
      exact ⟨h.1, h.2.pt⟩
  · cases hm
theorem g_or {es : Es} (gs : GoEs exc L t n C N es) : GoE exc L t n C N (.or_ es) := fun sc X W pe hm cx tk => by
  simp only [mE] at hm
  split at hm
  · rename_i vs _
    cases vs with
    | nil => 
      have := gs _ _ _ _ hm cx tk
      have h0 := this.len
      cases es with
      | nil => exact ⟨PE.weak PE.nev fun σ H Q ⟨r, m, P, Xd, re, rel, hw, q, xl⟩ => hw, ⟨fun _ _ _ _ _ _ ⟨r, m, P, Xd, re, rel, hw, q, xl⟩ => False.elim hw⟩⟩
      | cons _ _ => simp [lenE] at h0
    | cons v vs =>
      have h := (gs _ _ _ _ hm cx tk).or (by simp) ‹Pos›
      exact ⟨h.1, h.2.pt⟩
  · cases hm
theorem g_not {a : E} (ga : GoE exc L t n C N a) : GoE exc L t n C N (.not_ a) := fun sc X W pe hm cx tk => by
  simp only [mE] at hm
  split at hm
  · have h := ga _ _ _ _ hm cx tk
    have g := pe_notU (pos := ‹Pos›) h.1
    rw [cx.k] at g
    refine ⟨PE.weak g fun σ H Q q => q.seq (k := fun Xd r P x m1 => ∃ b, truth m1 x = some b ∧ P (.bl (!b)) m1) (fun _ _ _ _ h => h) fun Xd r P x m1 v H1 re rel xl q ⟨b, hb, h⟩ rv => ⟨b, truth_ok hb rv rel, q.here h (.bl _) rel⟩,
      PT.weak (pt_not h.2) fun σ H Q ⟨r, m, P, Xd, re, rel, hw, q, xl⟩ => ⟨r, m, fun x m1 => ∃ b, truth m1 x = some b ∧ P (.bl (!b)) m1, Xd, re, rel, hw, fun x m2 v H2 ⟨b, hb, h⟩ rv rel2 k2 => ⟨b, hb, ?_⟩, xl⟩⟩
    obtain ⟨b2, e, z⟩ := q (.bl (!b)) m2 (.bl (!b)) H2 h (.bl _) rel2 k2
    cases e
    exact z
  · cases hm
theorem g_ifx {c a b : E} (gc : GoE exc L t n C N c) (ga : GoE exc L t n C N a) (gb : GoE exc L t n C N b) : GoE exc L t n C N (.ifx c a b) := fun sc X W pe hm cx tk => by
  simp only [mE] at hm
  split at hm
  · simp only [Bool.and_eq_true] at hm
    obtain ⟨⟨h1, h2⟩, h3⟩ := hm
    have hc := gc _ _ _ _ h1 cx tk
    have ha := ga _ _ _ _ h2 cx tk
    have hb := gb _ _ _ _ h3 cx tk
    refine ⟨PE.weak (pe_ifExp hc.2 ha.1 hb.1) fun σ H Q ⟨r, m, P, Xd, re, rel, hw, q, xl⟩ => ⟨r, m, fun x m1 => ∃ k, truth m1 x = some k ∧ if k = true then wpE (sgh t n) a Xd r m1 P else wpE (sgh t n) b Xd r m1 P, Xd, re, rel, hw, fun x m2 v H2 ⟨k, hk, h⟩ rv rel2 k2 => ⟨k, hk, ?_⟩, xl⟩,
      PT.weak (pt_ifU hc.2 ha.2 hb.2) fun σ H Q ⟨r, m, P, Xd, re, rel, hw, q, xl⟩ => ⟨r, m, fun x m1 => ∃ k, truth m1 x = some k ∧ if k = true then wpE (sgh t n) a Xd r m1 P else wpE (sgh t n) b Xd r m1 P, Xd, re, rel, hw, fun x m2 v H2 ⟨k, hk, h⟩ rv rel2 k2 => ⟨k, hk, ?_⟩, xl⟩⟩
    · cases k with
      | true => exact ⟨r, m2, P, Xd, re.mono k2, rel2, h, q.mono k2, xl.mono k2⟩
      | false => exact ⟨r, m2, P, Xd, re.mono k2, rel2, h, q.mono k2, xl.mono k2⟩
    · cases k with
      | true => exact ⟨r, m2, P, Xd, re.mono k2, rel2, h, Ktt.mono q k2, xl.mono k2⟩
      | false => exact ⟨r, m2, P, Xd, re.mono k2, rel2, h, Ktt.mono q k2, xl.mono k2⟩
  · cases hm
theorem lenSz : (10000 : Nat) ≤ sizeLine := by rw [sizeLine_eq]; decide
theorem g_tup {es : Es} (gs : GoEs exc L t n C N es) : GoE exc L t n C N (.tup es) := fun sc X W pe hm cx tk => by
  simp only [mE] at hm
  split at hm
  · simp only [Bool.and_eq_true, decide_eq_true_eq] at hm
    obtain ⟨⟨_, h1⟩, h2⟩ := hm
    refine .of cx.k rfl (PE.weak (pe_tupZ (gs _ _ _ _ h2 cx tk).pa) fun σ H Q q => q.args (kk := fun Xd r P ds m1 => P (.tup ds) m1) (fun _ _ _ _ h => h) fun Xd r P xs m1 vs H1 hl re rel xl q h rv => ⟨?_, q.tup h rv rel⟩)
    rw [← rv.length, hl]
    exact Nat.le_trans h1 lenSz
  · cases hm
theorem g_lst {es : Es} (gs : GoEs exc L t n C N es) : GoE exc L t n C N (.lst es) := fun sc X W pe hm cx tk => by
  simp only [mE] at hm
  split at hm
  · simp only [Bool.and_eq_true, decide_eq_true_eq] at hm
    obtain ⟨⟨_, h1⟩, h2⟩ := hm
    refine .of cx.k rfl (PE.weak (pe_lst (gs _ _ _ _ h2 cx tk).pa) fun σ H Q q => q.args (kk := fun Xd r P ds m1 => newO m1 (.lst ds) P) (fun _ _ _ _ h => h) fun Xd r P xs m1 vs H1 hl re rel xl q h rv => ⟨?_, fun p hp => q.lst h rv rel hp⟩)
    rw [← rv.length, hl]
    exact Nat.le_trans h1 lenSz
  · cases hm
theorem g_dctK : GoE exc L t n C N .dctK := fun sc X W pe hm cx tk => by
  simp only [mE] at hm
  split at hm
  · exact .of cx.k rfl (PE.weak pe_dnewK fun σ H Q ⟨r, m, P, Xd, re, rel, hw, q, xl⟩ => fun p hp =>
      q _ _ _ _ ((show newO m (.dK []) P from hw) p (rel.free hp)) (.ref p) (rel.put (.new hp) ⟨[], upd_same, .nil⟩) (.new hp))
  · cases hm
theorem unl_take {α : Type} [DecidableEq α] (l : List α) (d : α) : ∀ i, i ≤ l.length → unl (fun j => l.getD j d) i = unlL (l.take i)
  | 0, _ => rfl
  | i + 1, hi => by
    have ih := unl_take l d i (by omega)
    have e : l.take (i + 1) = l.take i ++ [l.getD i d] := by
      rw [List.take_succ, List.getD_eq_getElem?_getD, List.getElem?_eq_getElem (show i < l.length by omega)]
      rfl
    unfold unl
    rw [ih, e]
    unfold unlL
    rw [List.foldl_append]
    rfl
theorem unl_all {α : Type} [DecidableEq α] (l : List α) (d : α) : unl (fun j => l.getD j d) l.length = unlL l := by
  have h := unl_take l d l.length (Nat.le_refl _)
  rwa [List.take_length] at h
theorem unl_map {α β : Type} [DecidableEq α] [DecidableEq β] {f : α → β} (hf : ∀ a b, f a = f b → a = b) (l : List α) : unlL (l.map f) = (unlL l).map f := by
  have key : ∀ (l acc : List α), (l.map f).foldl (fun acc x => if x ∈ acc then acc else acc ++ [x]) (acc.map f) = (l.foldl (fun acc x => if x ∈ acc then acc else acc ++ [x]) acc).map f := by
    intro l
    induction l with
    | nil => intro acc; rfl
    | cons x l ih =>
      intro acc
      rw [List.map_cons, List.foldl_cons, List.foldl_cons]
      have e : f x ∈ acc.map f ↔ x ∈ acc := by
        constructor
        · intro h
          obtain ⟨y, hy, e⟩ := List.mem_map.mp h
          rw [← hf _ _ e]; exact hy
        · exact fun h => List.mem_map.mpr ⟨x, h, rfl⟩
      by_cases h : x ∈ acc
      · rw [if_pos h, if_pos (e.mpr h), ih]
      · rw [if_neg h, if_neg fun z => h (e.mp z), ← ih, List.map_append]
        rfl
  exact key l []
theorem kys_ok {L : Lk} {H : Hp} : ∀ {ds : List D} {vs : List V} {ks : List Ky}, kysOf ds = some ks → Rps L.F H ds vs → vs = (ks.map kyV).map kV
  | [], _, ks, e, .nil => by simp [kysOf] at e; subst e; rfl
  | d :: ds, _, ks, e, .cons a b => by
    simp only [kysOf] at e
    split at e
    · rename_i k r e1 e2
      cases e
      rw [kys_ok e2 b]
      rw [ky_rp (L := L) e1 a]
      rfl
    · cases e
theorem g_lenS {a : E} (ga : GoE exc L t n C N a) : GoE exc L t n C N (.lenS a) := fun sc X W pe hm cx tk => by
  simp only [mE] at hm
  split at hm
  · simp only [Bool.and_eq_true, decide_eq_true_eq] at hm
    obtain ⟨⟨⟨⟨⟨⟨hc0, h1⟩, h2⟩, h3⟩, h4⟩, h5⟩, h6⟩ := hm
    subst h1 h3
    have hh := cx.cold hc0
    have h := fun p1 p2 p3 p4 : Pos => pe_lenK (p := p1) (p2 := p2) (q := p3) (pos := p4) (cx.gl h2) (cx.sta.blt _ (by decide +kernel)) (cx.gl h4) (cx.sta.blt _ (by decide +kernel)) (ga _ _ _ _ h6 cx tk).1 (cx.calm hh) (star_ok h5 _ _)
    rw [cx.k] at h
    refine .of cx.k rfl (PE.weak (h _ _ _ _) fun σ H Q q => q.seq (k := fun Xd r P x m1 => match x with
      | .ref a => ∃ ds ks, m1 a = some (.lst ds) ∧ kysOf ds = some ks ∧ ks.length ≤ 4000 ∧ P (.int ((unlL ks).length : Nat)) m1
      | _ => False) (fun _ _ _ _ h => h) fun Xd r P x m1 v H1 re rel xl q h rv => ?_)
    cases rv with
    | ref a =>
      obtain ⟨ds, ks, e1, e2, e3, hp⟩ := h
      obtain ⟨ws, k1, k2, _⟩ := lst_of e1 rel
      have e4 := kys_ok e2 k2
      subst e4
      refine ⟨a, ks.map kyV, rfl, k1, by rw [List.length_map]; exact e3, ?_⟩
      rw [unl_all, unl_map (fun _ _ => kyV_inj), List.length_map]
      exact q.here hp (.int _) rel
    | _ => exact h.elim
  · cases hm
theorem g_idx {a b : E} (ga : GoE exc L t n C N a) (gb : GoE exc L t n C N b) : GoE exc L t n C N (.idx a b) := fun sc X W pe hm cx tk => by
  simp only [mE] at hm
  split at hm
  · simp only [Bool.and_eq_true] at hm
    obtain ⟨⟨h1, h2⟩, h3⟩ := hm
    have h := pe_ix (pos := ‹Pos›) (ixS cx.k cx.sta.w cx.un) (ga _ _ _ _ h2 cx tk).1 (gb _ _ _ _ h3 cx tk).1 (plain_ix h1)
    refine .of cx.k rfl (PE.weak h fun σ H Q q => q.seq (k := fun Xd r P x m1 => wpE (sgh t n) b Xd r m1 fun y m2 => ixW x y m2 P) (fun _ _ _ _ h => h) fun Xd r P x m1 v H1 re rel xl q h rv =>
      .go re rel xl h fun y m2 u H2 h2 ru rel2 k2 => ix_ok h2 (rv.mono k2) ru rel2 (q.mono k2))
  · cases hm
theorem g_no : GoO exc L t n C N .no := fun sc X W pe hm cx tk => by
  cases pe with
  | none => exact PO.weak po_none fun σ H Q ⟨r, m, P, Xd, re, rel, hw, q, xl⟩ => q none m H hw rel (.refl H)
  | some _ => simp [mO] at hm
theorem g_yes {e : E} (ge : GoE exc L t n C N e) : GoO exc L t n C N (.yes e) := fun sc X W pe hm cx tk => by
  cases pe with
  | none => simp [mO] at hm
  | some p =>
    simp only [mO] at hm
    refine PO.weak (po_some (ge _ _ _ _ hm cx tk).1) fun σ H Q ⟨r, m, P, Xd, re, rel, hw, q, xl⟩ => .go re rel xl (show wpE (sgh t n) e Xd r m fun x m1 => match x with | .int i => P (some i) m1 | _ => False from hw) fun d m2 v H2 hp rv rel2 k2 => ?_
    cases rv <;> first | exact ⟨_, rfl, q _ _ _ hp rel2 k2⟩ | exact hp.elim
theorem g_slc {a : E} {lo hi : O} (ga : GoE exc L t n C N a) (gl : GoO exc L t n C N lo) (gh : GoO exc L t n C N hi) : GoE exc L t n C N (.slc a lo hi) := fun sc X W pe hm cx tk => by
  simp only [mE] at hm
  split at hm
  · simp only [Bool.and_eq_true] at hm
    obtain ⟨⟨h1, h2⟩, h3⟩ := hm
    rename_i pa pl ph p1 p2
    have h := pe_slice (pos := p2) (p2 := p1) slS (ga _ _ _ _ h1 cx tk).1 (gl _ _ _ _ h2 cx tk) (gh _ _ _ _ h3 cx tk)
    rw [cx.k] at h
    refine .of cx.k rfl (PE.weak h fun σ H Q q => q.seq (k := fun Xd r P x m1 => wpO (sgh t n) lo Xd r m1 fun l m2 => wpO (sgh t n) hi Xd r m2 fun h m3 => slW x l h m3 P) (fun _ _ _ _ h => h) fun Xd r P x m1 v H1 re rel xl q h rv =>
      ⟨r, m1, _, Xd, re, rel, h, fun l m2 H2 h2 rel2 k2 => ⟨r, m2, _, Xd, re.mono k2, rel2, h2, fun u m3 H3 h3 rel3 k3 => sl_ok h3 (rv.mono (k2.trans k3)) rel3 (q.mono (k2.trans k3)), xl.mono k2⟩, xl⟩)
  · cases hm
theorem g_rev {a : E} (ga : GoE exc L t n C N a) : GoE exc L t n C N (.rev a) := fun sc X W pe hm cx tk => by
  simp only [mE] at hm
  split at hm
  · rename_i k p1 p2 p3 p4
    have h := pe_back (k := k) (p1 := p1) (p2 := p2) (p3 := p3) (pos := p4) (ga _ _ _ _ hm cx tk).1
    rw [cx.k] at h
    refine .of cx.k rfl (PE.weak h fun σ H Q q => q.seq (k := fun Xd r P x m1 => revW x m1 P) (fun _ _ _ _ h => h) fun Xd r P x m1 v H1 re rel xl q h rv => ?_)
    cases rv with
    | ref a =>
      have h : (match getL m1 a with | some xs => newO m1 (.lst xs.reverse) P | none => False) := h
      split at h
      · rename_i xs e
        obtain ⟨ws, h1, h2, h3⟩ := lst_of (getL_of e) rel
        exact .inl ⟨a, ws, rfl, h1, fun p hp => q.lst h h2.reverse rel hp⟩
      · exact h.elim
    | @tup ds a vs sq rs =>
      have h : P (.tup ds.reverse) m1 := h
      exact .inr ⟨a, vs, rfl, sq.sq, q.tup h rs.reverse rel⟩
    | _ => exact h.elim
  · cases hm
end
end Mn
end

section
set_option Elab.async false
set_option linter.all false
set_option maxRecDepth 100000
set_option maxHeartbeats 4000000
namespace Mn
open PySem PySem.Spec PyProof.Rows L2 RZ
section
variable {exc : Nat → Option Addr} {L : Lk} {t : Tab} {n : Dn} {C : Nm} {N : List Str} {sc : Scope} {X : Cx} {W : WX}
theorem PE.nev2 {e : Expr} {t : TE} (h : ∀ σ H Q, ¬ t σ H Q) : PE X e t := ⟨fun _ _ σ H Q _ q => (h σ H Q q).elim⟩
theorem sp_of {c f : Nat} {ds : List D} {vs : List V} {m : Hm} {H : Hp} {P : PD} {Q : VK} {Xd : XD} {r : Mn.Env} {σ : L2.St} (re : REnv L.F H r σ) (xl : XL exc L W H Xd) (rs : Rps L.F H ds vs) (rel : Rel L m H) (h : callD t n c f ds m P fun c m2 => Xd c r m2) (q : Kt L H P Q) :
    spOf exc L t n c f vs H Q (WE W σ) :=
  ⟨ds, m, P, fun c m2 => Xd c r m2, rs, rel, h, q, fun k m2 Ca H2 hx he rel2 k2 => xl k r m2 Ca H2 σ hx he (re.mono k2) rel2 k2⟩
theorem la_nil {σ : L2.St} {H : Hp} {Q : List V → Hp → Prop} (h : LA exc L W (lenE .nil) (wpEs (sgh t n) .nil) σ H Q) : Q [] H := by
  obtain ⟨r, m, P, Xd, re, rel, hw, q, xl⟩ := h
  exact q [] m [] H rfl hw .nil rel (.refl H)
theorem mEs_nil {es : Es} (h : mEs C N es sc [] = true) : es = .nil := by cases es <;> simp_all [mEs]
theorem hs_some {c f : Nat} (h : (sgh t n).hs c f = true) : ∃ fn, t.F c f = some fn := Option.isSome_iff_exists.mp (show (t.F c f).isSome = true from h)
theorem g_call {es : Es} (f : Nat) (gs : GoEs exc L t n C N es) : GoE exc L t n C N (.call f es) := fun sc X W pe hm cx tk => by
  simp only [mE] at hm
  split at hm
  · rename_i x p as pos
    simp only [Bool.and_eq_true, decide_eq_true_eq] at hm
    obtain ⟨⟨⟨⟨⟨h0, h1⟩, h2⟩, h3⟩, h4⟩, h5⟩ := hm
    have ha := (gs _ _ _ _ h5 cx tk).pa
    refine .of cx.k rfl ?_
    cases e : (sgh t n).hs 0 f with
    | false =>
        refine PE.nev2 fun σ H Q ⟨r, m, P, Xd, re, rel, hw, q, xl⟩ => ?_
        have h0 := (show (sgh t n).hs 0 f = true ∧ _ from hw).1
        rw [e] at h0
        cases h0
    | true =>
      obtain ⟨fn, e⟩ := hs_some e
      cases hh : n.hx with
      | none =>
        obtain ⟨fa, fd, ps, m1, m2, m3, m4⟩ := cx.sta.fn hh f fn e
        rw [h1] at m1
        cases as with
        | nil =>
          cases mEs_nil h5
          exact PE.weak (pe_c0 m4 ((cx.room hh).mono (Nat.le_succ _)) (cx.gl h2) m1 m2 m3 tk (okx_d h3).1) fun σ H Q ⟨r, m, P, Xd, re, rel, hw, q, xl⟩ => sp_of re xl .nil rel (show callD t n 0 f [] m P _ from hw.2) q
        | cons a as =>
          exact PE.weak (pe_c1 m4 ((cx.room hh).mono (Nat.le_succ _)) (cx.gl h2) m1 m2 m3 tk ha h4 (okx_d h3).1) fun σ H Q q => q.args (kk := fun Xd r P ds m1 => callD t n 0 f ds m1 P fun c m2 => Xd c r m2) (fun _ _ _ _ h => h.2) fun Xd r P xs m1 vs H1 hl re rel xl q h rv => sp_of re xl rv rel h q
      | some h =>
        have hc : C.hfn f = true := by
          rw [Bool.or_eq_true] at h0
          rcases h0 with z | z
          · rw [cx.cold z] at hh; cases hh
          · exact z
        obtain ⟨fa, fd, ps, m1, m2, m3, m4⟩ := cx.sta.fnh h f fn e hc
        rw [h1] at m1
        obtain ⟨p, g1, g2, g3⟩ := cx.hld h hh
        have hn : (⟨n.n, some h⟩ : Dn) = n := by rw [← hh]
        rw [hn] at m4
        exact PE.weak (pe_cK m4 (cx.roomH.mono (Nat.le_succ _)) g1 g2 g3 (cx.gl h2) m1 m2 m3 tk ha (fun z σ H Q q => by subst z; cases mEs_nil h5; exact la_nil q) h4 (okx_d h3).1) fun σ H Q q => q.args (kk := fun Xd r P ds m1 => callD t n 0 f ds m1 P fun c m2 => Xd c r m2) (fun _ _ _ _ h => h.2) fun Xd r P xs m1 vs H1 hl re rel xl q h rv => sp_of re xl rv rel h q
  · cases hm
theorem g_make {es : Es} (f : Nat) (gs : GoEs exc L t n C N es) : GoE exc L t n C N (.make f es) := fun sc X W pe hm cx tk => by
  simp only [mE] at hm
  split at hm
  · simp only [Bool.and_eq_true, decide_eq_true_eq] at hm
    obtain ⟨⟨⟨⟨⟨⟨hc0, h0⟩, h1⟩, h2⟩, h3⟩, h4⟩, h5⟩ := hm
    have hh := cx.cold hc0
    have ha := gs _ _ _ _ h5 cx tk
    refine .of cx.k rfl ?_
    cases e : (sgh t n).hs f (sgh t n).ini with
    | false =>
        refine PE.nev2 fun σ H Q ⟨r, m, P, Xd, re, rel, hw, q, xl⟩ => ?_
        have h0 := (show (sgh t n).hs f (sgh t n).ini = true ∧ _ from hw).1
        rw [e] at h0
        cases h0
    | true =>
      obtain ⟨fn, e⟩ := hs_some e
      obtain ⟨Ca, fa, fd, ps, k1, k2, k3, k4, k5⟩ := cx.sta.mke hh f fn h0 e
      rw [h1] at k3
      refine PE.weak (pe_mkU (cx.gl h2) k3 k2 k5 (cx.room hh) k4 tk ha.pa (fun z σ H Q q => ?_) h4 (okx_d h3).1) fun σ H Q q => q.args (kk := fun Xd r P ds m1 => ∀ p, m1 p = none → callD t n f t.ini (.ref p :: ds) (up m1 p (.ins f [])) (fun d m2 => d = .non ∧ P (.ref p) m2) fun c m2 => Xd c r m2) (fun _ _ _ _ h => h.2)
        fun Xd r P xs m1 vs H1 hl re rel xl q h rv y dy hy hdy ne => ?_
      · subst z
        cases mEs_nil h5
        exact la_nil q
      · have hy2 : upd H1 dy (.own y) y = none := by rw [upd_ne (fun z => ne z.symm)]; exact hy
        have kp : Kp H1 (upd (upd H1 dy (.own y)) y (.ins Ca dy [])) := (Kp.new hdy).trans (.new hy2)
        have rel2 : Rel L (up m1 y (.ins f [])) (upd (upd H1 dy (.own y)) y (.ins Ca dy [])) := (rel.hide hdy).put (.new hy2) ⟨Ca, dy, [], k1, upd_same, .nil, rfl⟩
        refine sp_of (re.mono kp) (xl.mono kp) (.cons (.ref y) (rv.mono kp)) rel2 (h y (rel.free hy)) fun d m3 v H3 hp rv3 rel3 k3 => ?_
        obtain ⟨e1, hp⟩ := hp
        subst e1
        cases rv3
        exact ⟨rfl, q _ _ _ _ hp (.ref y) rel3 (kp.trans k3)⟩
  · cases hm
theorem fget_ok {F : PySem.W.Frag} {H : Hp} {nm : Nat → Str} {ok : Nat → Bool} (inj : ∀ a b, ok a = true → ok b = true → nm a = nm b → a = b) {f : Nat} (hf : ok f = true) : ∀ {fs : List (Nat × D)} {gs : List (Str × V)}, KvR F H nm fs gs → (fs.all fun p => ok p.1) = true →
    (∃ d v, fget fs f = some d ∧ gs.lookup (nm f) = some v ∧ Rp F H d v) ∨ (fget fs f = none ∧ gs.lookup (nm f) = none)
  | _, _, .nil, _ => .inr ⟨rfl, rfl⟩
  | (a, d) :: fs, (b, v) :: gs, .cons ⟨h1, h2⟩ r, hk => by
    have h1 : b = nm a := h1
    rw [List.all_cons, Bool.and_eq_true] at hk
    by_cases hz : f = a
    · subst hz
      refine .inl ⟨d, v, by simp only [fget, if_true], ?_, h2⟩
      subst h1
      simp [List.lookup]
    · have hne : (nm f == b) = false := by
        rw [beq_eq_false_iff_ne, h1]
        exact fun z => hz (inj _ _ hf hk.1 z)
      rcases fget_ok inj hf r hk.2 with ⟨d2, v2, e1, e2, e3⟩ | ⟨e1, e2⟩
      · exact .inl ⟨d2, v2, by simp only [fget, if_neg hz, e1], by simp only [List.lookup, hne, e2], e3⟩
      · exact .inr ⟨by simp only [fget, if_neg hz, e1], by simp only [List.lookup, hne, e2]⟩
theorem all_l {L : Lk} {c : Nat} {fs : List (Nat × D)} (h : (fs.all fun p => L.ok p.1 && L.fld c p.1) = true) : (fs.all fun p => L.ok p.1) = true := by
  simp only [List.all_eq_true, Bool.and_eq_true] at h ⊢
  exact fun p hp => (h p hp).1
theorem all_r {L : Lk} {c f : Nat} {d : D} : ∀ {fs : List (Nat × D)}, (fs.all fun p => L.ok p.1 && L.fld c p.1) = true → fget fs f = some d → L.fld c f = true
  | [], _, e => by cases e
  | (a, v) :: fs, h, e => by
    rw [List.all_cons, Bool.and_eq_true, Bool.and_eq_true] at h
    simp only [fget] at e
    split at e
    · rename_i z; rw [z]; exact h.1.2
    · exact all_r h.2 e
theorem g_attr {a : E} (f : Nat) (ga : GoE exc L t n C N a) : GoE exc L t n C N (.attr f a) := fun sc X W pe hm cx tk => by
  simp only [mE] at hm
  split at hm
  · simp only [Bool.and_eq_true, decide_eq_true_eq] at hm
    obtain ⟨⟨⟨h1, h2⟩, h3⟩, h4⟩ := hm
    have h := pe_fld (pos := ‹Pos›) (ga _ _ _ _ h4 cx tk).1 (sup_ok h3 ‹Str› X.env)
    rw [cx.k] at h
    refine .of cx.k rfl (PE.weak h fun σ H Q q => q.seq (k := fun Xd r P x m1 => match x with | .ref a => ∃ c fs d, m1 a = some (.ins c fs) ∧ fget fs f = some d ∧ P d m1 | _ => False) (fun _ _ _ _ h => h) fun Xd r P x m1 v H1 re rel xl q h rv => ?_)
    cases rv with
    | ref a =>
      obtain ⟨c, fs, d, e1, e2, h⟩ := h
      obtain ⟨Ca, dx, gs, k1, k2, k3, k4⟩ := rel _ _ e1
      have ho : L.ok f = true := by rw [cx.sta.okL]; exact h2
      rcases fget_ok (ok := L.ok) (by rw [cx.sta.okL, cx.sta.nm]; exact cx.sta.inj) ho k3 (all_l k4) with ⟨d2, v2, g1, g2, g3⟩ | ⟨g1, g2⟩
      · rw [e2] at g1
        cases g1
        rw [cx.sta.nm, h1] at g2
        refine ⟨a, Ca, dx, gs, v2, rfl, k2, ?_, ?_, g2, q.here h g3 rel⟩
        · have := cx.sta.cls c Ca k1
          rw [cx.k] at this
          exact this
        · have := cx.sta.att c Ca f k1 (by rw [← cx.sta.fldL]; exact all_r k4 e2)
          rw [cx.k, h1] at this
          exact this
      · rw [e2] at g1; cases g1
    | _ => exact h.elim
  · cases hm
theorem g_meth {a : E} {es : Es} (f : Nat) (ga : GoE exc L t n C N a) (gs : GoEs exc L t n C N es) : GoE exc L t n C N (.meth f a es) := fun sc X W pe hm cx tk => by
  simp only [mE] at hm
  split at hm
  · rename_i po mm apos as pos
    simp only [Bool.and_eq_true, decide_eq_true_eq] at hm
    obtain ⟨⟨⟨⟨⟨⟨⟨⟨hc0, h1⟩, h2⟩, h3⟩, h4⟩, h5⟩, h6⟩, h7⟩, h8⟩ := hm
    have hh := cx.cold hc0
    have hA := gs _ _ _ _ h8 cx tk
    have h := pe_mU (m := mm) (k := lv n.n) (ga _ _ _ _ h7 cx tk).1 h3 h4 h5 h6 tk hA.pa (fun z σ H Q q => by subst z; cases mEs_nil h8; exact la_nil q) ((cx.room hh).mono (Nat.le_succ _))
    refine .of cx.k rfl (PE.weak h fun σ H Q q => q.seq (k := fun Xd r P x m1 => match x with
      | .ref a => ∃ c fs, m1 a = some (.ins c fs) ∧ fget fs f = none ∧ (sgh t n).hs c f = true ∧ wpEs (sgh t n) es Xd r m1 fun ds m2 => callD t n c f (x :: ds) m2 P fun c m2 => Xd c r m2
      | _ => False) (fun _ _ _ _ h => h) fun Xd r P x m1 v H1 re rel xl q h rv => ?_)
    cases rv with
    | ref a =>
      obtain ⟨c, fs, e1, e2, e3, h⟩ := h
      obtain ⟨Ca, dx, gs, k1, k2, k3, k4⟩ := rel _ _ e1
      obtain ⟨fn, e⟩ := hs_some e3
      obtain ⟨fa, fd, ps, m1', m2', m3'⟩ := cx.sta.met hh c f fn Ca e k1 h2
      have ho : L.ok f = true := by rw [cx.sta.okL]; exact h2
      rcases fget_ok (ok := L.ok) (by rw [cx.sta.okL, cx.sta.nm]; exact cx.sta.inj) ho k3 (all_l k4) with ⟨d2, v2, g1, g2, g3⟩ | ⟨g1, g2⟩
      · rw [e2] at g1; cases g1
      · rw [cx.sta.nm, h1] at g2
        rw [h1] at m1'
        exact ⟨a, Ca, dx, gs, fa, fd, ps, _, rfl, k2, g2, cx.sta.cls c Ca k1, m1', m2', m3', .go re rel xl h fun xs m2 vs H2 hp rs rel2 k2' => sp_of (re.mono k2') (xl.mono k2') (.cons (.ref a) rs) rel2 hp (q.mono k2')⟩
    | _ => exact h.elim
  · cases hm
theorem bf_kind (f : Bf) : (∃ id, bfV f = .builtin id) ∨ ∃ T, bfV f = .type T := by cases f <;> first | exact .inl ⟨_, rfl⟩ | exact .inr ⟨_, rfl⟩
theorem bf_none (f : Bf) : isBlt (bfN f) = true := by cases f <;> decide +kernel
theorem g_bcall {es : Es} (f : Bf) (gs : GoEs exc L t n C N es) : GoE exc L t n C N (.bcall f es) := fun sc X W pe hm cx tk => by
  simp only [mE] at hm
  split at hm
  · rename_i x p as pos
    simp only [Bool.and_eq_true, decide_eq_true_eq] at hm
    obtain ⟨⟨⟨⟨hc0, h1⟩, h2⟩, h4⟩, h5⟩ := hm
    have ha := (gs _ _ _ _ h5 cx tk).pa
    refine .of cx.k rfl ?_
    subst h1
    have hm := cx.sta.blt _ (bf_none f)
    cases hh : n.hx with
    | some hp =>
      rw [cx.cold hc0] at hh
      cases hh
    | none =>
      have hb := bf_boot f
      have hc := bfS (X := X) cx.k cx.sta.w (cx.calm hh) cx.un f
      have hw : ∀ {r : RC} {a : Expr} {as : List Expr}, r = bfR L f → ∀ σ H Q, LE exc L W (wpE (sgh t n) (.bcall f es)) σ H Q → LA exc L W (lenE es) (wpEs (sgh t n) es) σ H fun vs H1 => r vs H1 Q := fun {r a as} hr σ H Q q => by
        subst hr
        exact q.args (kk := fun Xd r P ds m1 => ((sgh t n).hx = none ∨ (f = .max ∧ ∃ xs, ds = [.tup xs])) ∧ bfW f ds m1 P) (fun _ _ _ _ h => h) fun Xd r P xs m1 vs H1 hl re rel xl q h rv => bf_ok h.2 rv rel q
      cases as with
      | nil =>
        cases mEs_nil h5
        refine PE.nev2 fun σ H Q ⟨r, m, P, Xd, re, rel, hw, q, xl⟩ => ?_
        have hw : bfW f [] m P := (show _ ∧ bfW f [] m P from hw).2
        cases f <;> exact hw
      | cons a as =>
        have hs2 : nostar a = true ∧ as.all nostar = true := by rw [List.all_cons, Bool.and_eq_true] at h4; exact h4
        rcases bf_kind f with ⟨id, e⟩ | ⟨T, e⟩
        · rw [e] at hb hc
          exact PE.weak (pe_callB hc (cx.gl h2) hm hb ha (bf_name f).1 (bf_name f).2 (star_ok hs2.1 _ _) (stars_ok hs2.2 _ _).1) (hw (a := a) (as := as) rfl)
        · rw [e] at hb hc
          exact PE.weak (pe_callTy hc (cx.gl h2) hm hb ha (bf_name f).1 (bf_name f).2 (star_ok hs2.1 _ _) (stars_ok hs2.2 _ _).1) (hw (a := a) (as := as) rfl)
  · cases hm
theorem g_bmeth {a : E} {es : Es} (f : Bm) (ga : GoE exc L t n C N a) (gs : GoEs exc L t n C N es) : GoE exc L t n C N (.bmeth f a es) := fun sc X W pe hm cx tk => by
  simp only [mE] at hm
  split at hm
  · simp only [Bool.and_eq_true, decide_eq_true_eq] at hm
    obtain ⟨⟨⟨⟨⟨⟨h1, h3⟩, h4⟩, h5⟩, h6⟩, h7⟩, h8⟩ := hm
    subst h1
    have hA := gs _ _ _ _ h8 cx tk
    have h := pe_bU (m := bmN f) cx.k cx.sta.w (ga _ _ _ _ h7 cx tk).1 h3 h4 h5 h6 hA.pa (fun z σ H Q q => by subst z; cases mEs_nil h8; exact la_nil q)
    refine .of cx.k rfl (PE.weak h fun σ H Q q => q.seq (k := fun Xd r P x m1 => mok f (rk m1 x) = true ∧ wpEs (sgh t n) es Xd r m1 fun ds m2 => rk m2 x = rk m1 x ∧ bmW f x ds m2 P) (fun _ _ _ _ h => h) fun Xd r P x m1 v H1 re rel xl q h rv => ?_)
    have hT := rk_ty h.1 rfl rv rel
    have hS := bmS cx.k cx.sta.w cx.un h.1
    exact ⟨_, _, _, hS, hT, .go re rel xl h.2 fun xs m2 vs H2 hp rs rel2 k2 => bm_ok hp.1 hp.2 (rv.mono k2) rs rel2 (q.mono k2)⟩
  · cases hm
theorem ty_boot {t : Ty} (h : isBt t = true) : bootBuiltins (Str.ofString (tyN t)) = some (.type (tyN t)) := by cases t <;> first | decide +kernel | cases h
theorem ty_blt {t : Ty} (h : isBt t = true) : isBlt (Str.ofString (tyN t)) = true ∧ Str.ofString (tyN t) ≠ "__name__" ∧ (Str.ofString (tyN t) == ("__debug__" : Str)) = false := by cases t <;> first | decide +kernel | cases h
theorem isT_bt {g : Sg} {m : Hm} {x : D} {ty : Ty} (h : isBt ty = true) : isT g m x [ty] = tyIs m x ty := by
  cases ty <;> first | exact absurd h Bool.false_ne_true | (simp only [isT, tyAny]; split <;> simp_all)
theorem g_isin {a : E} (ts : List Ty) (ga : GoE exc L t n C N a) : GoE exc L t n C N (.isin a ts) := fun sc X W pe hm cx tk => by
  simp only [mE] at hm
  split at hm
  · simp only [Bool.and_eq_true, decide_eq_true_eq] at hm
    obtain ⟨⟨⟨⟨⟨h1, h2⟩, h3⟩, h5⟩, h6⟩, h7⟩ := hm
    subst h1
    rename_i y py pos ty
    by_cases hbt : isBt ty = true
    · have h4 : y = Str.ofString (tyN ty) := by
        cases ty <;> first | exact absurd hbt Bool.false_ne_true | exact of_decide_eq_true h3
      subst h4
      have hb := ty_blt hbt
      have h := fun p1 p2 p3 : Pos => pe_callB (pos := p1) (p := p2) call_isi (cx.gl h2) (cx.sta.blt _ (by decide +kernel)) (by decide +kernel)
        (pa_cons (ga _ _ _ _ h7 cx tk).1 (pa_cons (pe_bltn (v := .ty (tyN ty)) (pos := p3) (cx.gl h5) (cx.sta.blt _ hb.1) (ty_boot hbt) rfl hb.2.1 hb.2.2) pa_nil rfl) (star_ok h6 _ _)) (by decide) (by decide) (star_ok h6 _ _) rfl
      rw [cx.k] at h
      refine .of cx.k rfl (PE.weak (h _ _ _) fun σ H Q q => q.seq (k := fun Xd r P x m1 => ∃ b, isT (sgh t n) m1 x [ty] = some b ∧ P (.bl b) m1) (fun _ _ _ _ h => h) fun Xd r P x m1 v H1 re rel xl q h rv => ?_)
      obtain ⟨b, e, h⟩ := h
      rw [isT_bt hbt] at e
      obtain ⟨c, t1, t2⟩ := ty_ok hbt e rv rel
      exact ⟨v, .ty (tyN ty), c, _, b, rfl, .ty _, t1, t2, q.here h (.bl b) rel⟩
    · have no : ∀ (m1 : Hm) (y : D), (∀ a c, y ≠ .exc a c) → isT (sgh t n) m1 y [ty] = none := fun m1 y hy => by
        cases ty with
        | own k => cases y <;> first | rfl | exact absurd rfl (hy _ _)
        | verr => cases y <;> first | rfl | exact absurd rfl (hy _ _)
        | _ => exact absurd rfl hbt
      -- the class that is asked for
      have cls : ∃ (te : TE) (cv : Value) (cw : V), (∀ p3 : Pos, PE X (.Name y p3) te) ∧ (∀ σ H Q, Q cw H → te σ H Q) ∧ (∀ u, RelV cw u → u = cv) ∧ ∀ a c Ca, exc c = some Ca → ∃ b, (∀ m, isT (sgh t n) m (.exc a c) [ty] = if n.hx = some (a, c) then some b else none) ∧ PySem.W.kitOne X.K (.ref Ca) cv = some b := by
        cases ty with
        | own k =>
          simp only [mTy, Bool.and_eq_true, decide_eq_true_eq] at h3
          obtain ⟨⟨e1, e2⟩, e3⟩ := h3
          obtain ⟨Ck, e5, e4⟩ := cx.sta.exg k e2
          rw [e1] at e5
          exact ⟨_, .ref Ck, .ref Ck, fun p3 => pe_glob (v := .ref Ck) (pos := p3) (cx.gl h5) e5 rfl (okx_d e3).1, fun σ H Q q => q, fun u h => h, fun a c Ca g => ⟨t.sub c k, fun m => rfl, (e4 _ _ g).2⟩⟩
        | verr =>
          have e1 : y = "ValueError" := of_decide_eq_true h3
          subst e1
          exact ⟨_, .type "ValueError", .ty "ValueError", fun p3 => pe_bltn (v := .ty "ValueError") (pos := p3) (cx.gl h5) (cx.sta.blt _ (by decide +kernel)) (by decide +kernel) rfl (by decide +kernel) (by decide +kernel), fun σ H Q q => q, fun u h => h, fun a c Ca g => ⟨true, fun m => rfl, (cx.sta.exs _ _ g).ve⟩⟩
        | _ => exact absurd rfl hbt
      obtain ⟨te, cv, cw, c1, c2, c3, c4⟩ := cls
      cases hh : n.hx with
      | none =>
        have h := fun p1 p2 p3 : Pos => pe_callB (pos := p1) (p := p2) call_isi (cx.gl h2) (cx.sta.blt _ (by decide +kernel)) (by decide +kernel)
          (pa_cons (ga _ _ _ _ h7 cx tk).1 (pa_cons (c1 p3) pa_nil rfl) (star_ok h6 _ _)) (by decide) (by decide) (star_ok h6 _ _) rfl
        refine .of cx.k rfl (PE.weak (h _ _ _) fun σ H Q q => q.seq (k := fun Xd r P x m1 => ∃ b, isT (sgh t n) m1 x [ty] = some b ∧ P (.bl b) m1) (fun _ _ _ _ h => h) fun Xd r P x m1 v H1 re rel xl q h rv => ?_)
        obtain ⟨b, e, h⟩ := h
        have none_ : isT (sgh t n) m1 x [ty] = none := by
          cases x with
          | exc a c =>
            have hx0 : (sgh t n).hx = none := hh
            cases ty with
            | own k => simp only [isT, hx0]; rfl
            | verr => simp only [isT, hx0]; rfl
            | _ => exact absurd rfl hbt
          | _ => exact no _ _ (fun a c z => by cases z)
        rw [none_] at e
        cases e
      | some hx =>
        obtain ⟨p, g1, g2, g3, g4, Ca, g5, g6⟩ := cx.hld hx hh
        have F := cx.sta.exs _ _ g5
        have isK := call_isK F.cl g2 g6 g4
        have h := fun p1 p2 p3 : Pos => pe_callB (pos := p1) (p := p2) isK (cx.gl h2) (cx.sta.blt _ (by decide +kernel)) (by decide +kernel)
          (pa_cons (ga _ _ _ _ h7 cx tk).1 (pa_cons (c1 p3) pa_nil rfl) (star_ok h6 _ _)) (by decide) (by decide) (star_ok h6 _ _) rfl
        refine .of cx.k rfl (PE.weak (h _ _ _) fun σ H Q q => q.seq (k := fun Xd r P x m1 => ∃ b, isT (sgh t n) m1 x [ty] = some b ∧ P (.bl b) m1) (fun _ _ _ _ h => h) fun Xd r P x m1 v H1 re rel xl q h rv => ?_)
        obtain ⟨b, e, h⟩ := h
        cases rv with
        | exc a c =>
          have z : n.hx = some (a, c) := by
            by_cases z : n.hx = some (a, c)
            · exact z
            · have none_ : isT (sgh t n) m1 (.exc a c) [ty] = none := by
                have hx0 : ¬ (sgh t n).hx = some (a, c) := z
                cases ty with
                | own k => simp only [isT]; rw [if_neg hx0]
                | verr => simp only [isT]; rw [if_neg hx0]
                | _ => exact absurd rfl hbt
              rw [none_] at e
              cases e
          rw [hh] at z
          cases z
          obtain ⟨b2, z2, z3⟩ := c4 a c Ca g5
          rw [z2, if_pos hh] at e
          cases e
          refine c2 _ _ _ ⟨cw, cv, b, ?_, c3, z3, q.here h (.bl b) rel⟩
          rw [g3]
        | _ => rw [no _ _ (fun a c z => by cases z)] at e; cases e
  · simp only [Bool.and_eq_true, decide_eq_true_eq] at hm
    obtain ⟨⟨⟨⟨⟨⟨⟨⟨⟨h1, h2⟩, b1⟩, e1⟩, g1⟩, b2⟩, e2⟩, g2⟩, h6⟩, h7⟩ := hm
    subst h1 e1 e2
    rename_i t1 t2
    have l1 := ty_blt b1
    have l2 := ty_blt b2
    have hT := fun (p1 p2 p3 : Pos) (kk : Nat) => pe_tup (x1 := kk) (pos := p3) (pa_cons (pe_bltn (v := .ty (tyN t1)) (pos := p1) (cx.gl g1) (cx.sta.blt _ l1.1) (ty_boot b1) rfl l1.2.1 l1.2.2) (pa_cons (pe_bltn (v := .ty (tyN t2)) (pos := p2) (cx.gl g2) (cx.sta.blt _ l2.1) (ty_boot b2) rfl l2.2.1 l2.2.2) pa_nil rfl) rfl)
    have h := fun (p1 p2 p3 p4 p5 : Pos) (kk : Nat) => pe_callB (pos := p1) (p := p2) call_isiT (cx.gl h2) (cx.sta.blt _ (by decide +kernel)) (by decide +kernel)
      (pa_cons (ga _ _ _ _ h7 cx tk).1 (pa_cons (hT p3 p4 p5 kk) pa_nil rfl) (star_ok h6 _ _)) (by decide) (by decide) (star_ok h6 _ _) rfl
    rw [cx.k] at h
    refine .of cx.k rfl (PE.weak (h _ _ _ _ _ _) fun σ H Q q => q.seq (k := fun Xd r P x m1 => ∃ b, isT (sgh t n) m1 x [t1, t2] = some b ∧ P (.bl b) m1) (fun _ _ _ _ h => h) fun Xd r P x m1 v H1 re rel xl q h rv => ?_)
    obtain ⟨b, e, h⟩ := h
    refine ⟨by show 2 ≤ sizeLine; decide, fun p hp => ?_⟩
    have kp : Kp H1 (upd H1 p (.tup [V.ty (tyN t1), V.ty (tyN t2)])) := .new hp
    have rv2 := rv.mono kp
    have rel2 := rel.hide hp (o := .tup [V.ty (tyN t1), V.ty (tyN t2)])
    have e0 : isT (sgh t n) m1 x [t1, t2] = tyAny m1 x [t1, t2] := by cases t1 <;> rfl
    rw [e0] at e
    simp only [tyAny] at e
    cases ht : tyIs m1 x t1 with
    | none => rw [ht] at e; cases e
    | some c1 =>
      rw [ht] at e
      obtain ⟨ct, k1, k2⟩ := ty_all ht rv2 rel2
      have fin : PySem.W.kitAny L.F ct [.type (tyN t1), .type (tyN t2)] = some b := by
        cases c1 with
        | true =>
          cases e
          simp only [PySem.W.kitAny, k2 t1 true b1 ht]
        | false =>
          cases hu : tyIs m1 x t2 with
          | none => rw [hu] at e; cases e
          | some c2 =>
            rw [hu] at e
            simp only [PySem.W.kitAny, k2 t1 false b1 ht, k2 t2 c2 b2 hu]
            cases c2 <;> exact e
      exact ⟨v, p, _, ct, _, b, rfl, upd_same, .cons (.ty _) (.cons (.ty _) .nil), k1, fin, q _ _ _ _ h (.bl b) rel2 kp⟩
  · cases hm
end
end Mn
end

section
set_option Elab.async false
set_option linter.all false
set_option maxRecDepth 100000
set_option maxHeartbeats 4000000
namespace Mn
open PySem PySem.Spec PyProof.Rows L2 RZ
section
variable {exc : Nat → Option Addr} {L : Lk} {t : Tab} {n : Dn} {C : Nm} {N : List Str} {sc : Scope} {X : Cx} {W : WX}
theorem mEs_len : ∀ {es : Es} {ps : List Expr}, mEs C N es sc ps = true → lenE es = ps.length
  | .nil, [], _ => rfl
  | .nil, _ :: _, h => by simp [mEs] at h
  | .cons _ _, [], h => by simp [mEs] at h
  | .cons e es, p :: ps, h => by
    simp only [mEs, Bool.and_eq_true] at h
    simp only [lenE, List.length_cons, mEs_len h.2]
theorem len1 {α : Type} {xs : List α} (h : xs.length = 1) : ∃ a, xs = [a] := by
  match xs, h with
  | [a], _ => exact ⟨a, rfl⟩
theorem len2 {α : Type} {xs : List α} (h : xs.length = 2) : ∃ a b, xs = [a, b] := by
  match xs, h with
  | [a, b], _ => exact ⟨a, b, rfl⟩
theorem len3 {α : Type} {xs : List α} (h : xs.length = 3) : ∃ a b c, xs = [a, b, c] := by
  match xs, h with
  | [a, b, c], _ => exact ⟨a, b, c, rfl⟩
theorem walk_ok {d : D} {v : V} {m : Hm} {H : Hp} {K : List D → (Hm → Prop) → Hm → Prop} {R : It → Hp → Prop} (h : walkV d m K) (rv : Rp L.F H d v) (rel : Rel L m H) (q : ∀ xs st J, K xs st m → ItOk L H J xs st → R J H) :
    (∃ a, v = .ref a ∧ (∃ xs, SqL L.F H a xs) ∧ R (Itl L.F a) H) ∨ (∃ a, v = .ref a ∧ (∃ xs, SqT L.F H a xs) ∧ R (Itt L.F a) H) ∨ ∃ z, v = .str z ∧ R (Its z) H := by
  cases rv with
  | str s => exact .inr (.inr ⟨_, rfl, q _ _ _ h it_str⟩)
  | @tup ds a vs sa ra => exact .inr (.inl ⟨a, rfl, ⟨_, sa.sq⟩, q _ _ _ h (it_tup sa ra)⟩)
  | @lst ds a vs sa ra => exact .inl ⟨a, rfl, ⟨_, sa.sq⟩, q _ _ _ h (it_fz sa ra)⟩
  | ref a =>
    have h : (match m a with | some (.lst ds) => K ds (fun m2 => m2 a = some (.lst ds)) m | _ => False) := h
    split at h
    · rename_i ds e
      obtain ⟨ws, h1, h2, h3⟩ := lst_of e rel
      exact .inl ⟨a, rfl, ⟨_, h1⟩, q _ _ _ h it_lst⟩
    · exact h.elim
  | _ => exact h.elim
theorem g_val {e : E} (ge : GoE exc L t n C N e) : GoI exc L t n C N (.val e) := fun sc X W tg pe hm cx tk => by
  simp only [mI] at hm
  have h := pi_any (tg := tg) (ge _ _ _ _ hm cx tk).1
  rw [cx.k] at h
  exact PI.weak h fun σ H R ⟨r, m, P, Xd, re, rel, hw, q, xl⟩ => .go re rel xl (show wpE (sgh t n) e Xd r m fun d m1 => walkV d m1 P from hw) fun d m2 v H2 hp rv rel2 k2 =>
    walk_ok hp rv rel2 fun xs st J hk it => q xs st m2 J H2 hk it rel2 k2
theorem blt_rng : isBlt "range" = true ∧ isBlt "enumerate" = true ∧ isBlt "zip" = true := by decide +kernel
theorem g_rng {es : Es} (gs : GoEs exc L t n C N es) : GoI exc L t n C N (.rng es) := fun sc X W tg pe hm cx tk => by
  simp only [mI] at hm
  split at hm
  · rename_i x p as pos
    simp only [Bool.and_eq_true, decide_eq_true_eq] at hm
    obtain ⟨⟨⟨⟨⟨h1, h2⟩, h3⟩, h4⟩, h5⟩, h6⟩ := hm
    subst h1
    have ha := (gs _ _ _ _ h6 cx tk).pa
    have hl := mEs_len h6
    have hb := cx.sta.blt _ blt_rng.1
    have key : ∀ {σ : L2.St} {H : Hp} {R : It → Hp → Prop}, LI exc L W (wpI (sgh t n) (.rng es)) σ H R → ∃ r m Xd P, REnv L.F H r σ ∧ Rel L m H ∧ wpEs (sgh t n) es Xd r m (fun ds m1 => rngW ds m1 P) ∧
        (∀ xs st m2 J H2, P xs st m2 → ItOk L H2 J xs st → Rel L m2 H2 → Kp H H2 → R J H2) ∧ XL exc L W H Xd := fun ⟨r, m, P, Xd, re, rel, hw, q, xl⟩ => ⟨r, m, Xd, P, re, rel, hw, q, xl⟩
    match as, h4, h5, h6, ha, hl, h3 with
    | [a], _, _, h6, ha, hl, h3 =>
      have h3 : nostar a = true := by simpa using h3
      refine PI.weak (pi_range1 (cx.gl h2) hb ha (star_ok h3 _ _)) fun σ H R q => ?_
      obtain ⟨r, m, Xd, P, re, rel, hw, q, xl⟩ := key q
      refine ⟨r, m, _, Xd, re, rel, hw, fun xs m2 vs H2 hlx hp rs rel2 k2 => ?_, xl⟩
      obtain ⟨x, rfl⟩ := len1 (hlx.trans hl)
      cases rs with
      | cons r1 rr =>
        cases rr
        cases r1 with
        | int j => exact ⟨j, rfl, hp.1.1, hp.1.2, q _ _ _ _ _ hp.2 it_rng rel2 k2⟩
        | _ => exact hp.elim
    | [a, b], _, _, h6, ha, hl, h3 =>
      have h3 : nostar a = true ∧ nostar b = true := by simpa using h3
      refine PI.weak (pi_range2 (cx.gl h2) hb ha (by rw [star_ok h3.1, star_ok h3.2]; rfl) (star_ok h3.2 _ _)) fun σ H R q => ?_
      obtain ⟨r, m, Xd, P, re, rel, hw, q, xl⟩ := key q
      refine ⟨r, m, _, Xd, re, rel, hw, fun xs m2 vs H2 hlx hp rs rel2 k2 => ?_, xl⟩
      obtain ⟨x, y, rfl⟩ := len2 (hlx.trans hl)
      cases rs with
      | cons r1 rr =>
        cases rr with
        | cons r2 rr =>
          cases rr
          cases r1 with
          | int i => cases r2 with
            | int j => exact ⟨i, j, rfl, ⟨hp.1.1, hp.1.2, hp.2.1.1, hp.2.1.2⟩, q _ _ _ _ _ hp.2.2 it_rng rel2 k2⟩
            | _ => exact hp.elim
          | _ => cases r2 <;> exact hp.elim
    | [a, b, c], _, _, h6, ha, hl, h3 =>
      have h3 : nostar a = true ∧ nostar b = true ∧ nostar c = true := by simpa using h3
      refine PI.weak (pi_range3 (cx.gl h2) hb ha (star_ok h3.1 _ _) (stars_ok (by simp [h3.2]) _ _).1) fun σ H R q => ?_
      obtain ⟨r, m, Xd, P, re, rel, hw, q, xl⟩ := key q
      refine ⟨r, m, _, Xd, re, rel, hw, fun xs m2 vs H2 hlx hp rs rel2 k2 => ?_, xl⟩
      obtain ⟨x, y, z, rfl⟩ := len3 (hlx.trans hl)
      cases rs with
      | cons r1 rr =>
        cases rr with
        | cons r2 rr =>
          cases rr with
          | cons r3 rr =>
            cases rr
            cases r1 with
            | int i => cases r2 with
              | int j => cases r3 with
                | int k =>
                  obtain ⟨b1, b2, hp⟩ := hp
                  rcases hp with ⟨b3, hp⟩ | ⟨b3, hp⟩
                  · subst b3
                    exact ⟨i, j, -1, _, rfl, RgC.neg b1.1 b1.2 b2.1 b2.2, q _ _ _ _ _ hp it_rngC rel2 k2⟩
                  · subst b3
                    exact ⟨i, j, 1, _, rfl, ⟨by decide, by decide, PySem.small_one b1.1 b1.2 b2.1 b2.2, PyProof.Rows.rangeSize_nat i j⟩, q _ _ _ _ _ hp it_rngC rel2 k2⟩
                | _ => exact hp.elim
              | _ => cases r3 <;> exact hp.elim
            | _ => cases r2 <;> cases r3 <;> exact hp.elim
  · cases hm
theorem pa_one {p : Expr} {e : E} (h : PE X p (LE exc L W (wpE (sgh t n) e))) (hs : nostar p = true) : PA X [p] (tCons (LE exc L W (wpE (sgh t n) e)) tNil) := pa_cons h pa_nil (star_ok hs _ _)
theorem g_enum {e : E} (ge : GoE exc L t n C N e) : GoI exc L t n C N (.enum e) := fun sc X W tg pe hm cx tk => by
  simp only [mI] at hm
  split at hm
  · simp only [Bool.and_eq_true, decide_eq_true_eq] at hm
    obtain ⟨⟨⟨h1, h2⟩, h3⟩, h4⟩ := hm
    subst h1
    have h := fun (elts : List Expr) (kk : Nat) (p1 p2 p3 : Pos) => pi_enumZ (elts := elts) (kk := kk) (tpos := p1) (p := p2) (pos := p3) (cx.gl h2) (cx.sta.blt _ blt_rng.2.1) (pa_one (ge _ _ _ _ h4 cx tk).1 h3) (star_ok h3 _ _)
    rw [cx.k] at h
    refine PI.weak (h _ _ _ _ _) fun σ H R ⟨r, m, P, Xd, re, rel, hw, q, xl⟩ => .go re rel xl (show wpE (sgh t n) e Xd r m fun d m1 => match d with
      | .str _ => False
      | _ => walkV d m1 fun xs st m2 => P (enumD 0 xs) st m2 from hw) fun d m2 v H2 hp rv rel2 k2 => ?_
    cases rv with
    | @tup ds a vs sa ra => exact ⟨a, vs, rfl, .inr ⟨sa.sq, q _ _ _ _ _ hp (it_enumZ (sc_tup sa ra)) rel2 k2⟩⟩
    | @lst ds a vs sa ra => exact ⟨a, vs, rfl, .inl ⟨sa.sq, q _ _ _ _ _ hp (it_enumZ (sc_fz sa ra)) rel2 k2⟩⟩
    | ref a =>
      have h : (match m2 a with | some (.lst ds) => P (enumD 0 ds) (fun m3 => m3 a = some (.lst ds)) m2 | _ => False) := hp
      split at h
      · rename_i ds e
        obtain ⟨ws, h1, h2, h3⟩ := lst_of e rel2
        exact ⟨a, ws, rfl, .inl ⟨h1, q _ _ _ _ _ h (it_enumZ sc_lst) rel2 k2⟩⟩
      · exact h.elim
    | _ => exact hp.elim
  · cases hm
theorem src_ok {d : D} {v : V} {m : Hm} {H : Hp} {ds : List D} {st : Hm → Prop} (h : zsrc m d = some (ds, st)) (rv : Rp L.F H d v) (rel : Rel L m H) : ∃ A ws, v = A.v ∧ A.has L.F H ws ∧ ScOk L H A ds st := by
  cases rv with
  | @tup es a vs sa ra =>
    cases h
    exact ⟨.tup a, vs, rfl, sa.sq, sc_tup sa ra⟩
  | @lst es a vs sa ra =>
    cases h
    exact ⟨.lst a, vs, rfl, sa.sq, sc_fz sa ra⟩
  | str s =>
    cases h
    exact ⟨.txt (toS s), _, rfl, rfl, sc_str⟩
  | ref a =>
    simp only [zsrc] at h
    split at h
    · rename_i es e
      cases h
      obtain ⟨ws, h1, h2, h3⟩ := lst_of e rel
      exact ⟨.lst a, ws, rfl, h1, sc_lst⟩
    · cases h
  | _ => cases h
theorem g_zip {a b : E} (ga : GoE exc L t n C N a) (gb : GoE exc L t n C N b) : GoI exc L t n C N (.zip a b) := fun sc X W tg pe hm cx tk => by
  simp only [mI] at hm
  split at hm
  · simp only [Bool.and_eq_true, decide_eq_true_eq] at hm
    obtain ⟨⟨⟨⟨⟨h1, h2⟩, h3⟩, h4⟩, h5⟩, h6⟩ := hm
    subst h1
    have h := fun (elts : List Expr) (kk : Nat) (p1 p2 p3 : Pos) => pi_zipZ (elts := elts) (kk := kk) (tpos := p1) (p := p2) (pos := p3) (cx.gl h2) (cx.sta.blt _ blt_rng.2.2) (pa_cons (ga _ _ _ _ h5 cx tk).1 (pa_one (gb _ _ _ _ h6 cx tk).1 h4) (star_ok h3 _ _)) (star_ok h3 _ _) (stars_ok (by simp [h4]) _ _).1
    rw [cx.k] at h
    refine PI.weak (h _ _ _ _ _) fun σ H R ⟨r, m, P, Xd, re, rel, hw, q, xl⟩ => .go re rel xl (show wpE (sgh t n) a Xd r m fun x m1 => wpE (sgh t n) b Xd r m1 fun y m2 => ∃ xs s1 ys s2, zsrc m2 x = some (xs, s1) ∧ zsrc m2 y = some (ys, s2) ∧ P (zipD xs ys) (fun m3 => s1 m3 ∧ s2 m3) m2 from hw) fun x m2 v H2 hp rv rel2 k2 => .go (re.mono k2) rel2 (xl.mono k2) hp fun y m3 u H3 hp ru rel3 k3 => ?_
    have rv := rv.mono k3
    obtain ⟨xs, s1, ys, s2, z1, z2, hp⟩ := hp
    obtain ⟨A, ws, rfl, a1, a2⟩ := src_ok z1 rv rel3
    obtain ⟨B, us, rfl, b1, b2⟩ := src_ok z2 ru rel3
    exact ⟨A, B, ws, us, rfl, a1, b1, q _ _ _ _ _ hp (it_zipZ a2 b2) rel3 (k2.trans k3)⟩
  · cases hm
theorem wipe_get (σ : L2.St) : ∀ (vs : List Nat) (j : Nat), (L2.wipe σ vs)[j]? = if j ∈ vs then (if j < σ.length then some none else none) else σ[j]?
  | [], j => by simp [L2.wipe]
  | v :: vs, j => by
    simp only [L2.wipe, List.getElem?_set, L2.wipe_length, wipe_get σ vs, List.mem_cons]
    by_cases h : v = j
    · subst h; simp
    · have h2 : ¬ j = v := fun z => h z.symm
      simp only [h, h2, if_false, false_or]
theorem wipe_ext {σ τ : L2.St} {vs : List Nat} (hl : τ.length = σ.length) (h : ∀ j, j ∉ vs → τ[j]? = σ[j]?) : L2.wipe τ vs = L2.wipe σ vs := by
  apply List.ext_getElem?
  intro j
  rw [wipe_get, wipe_get, hl]
  split
  · rfl
  · rename_i z; exact h j z
theorem wipe_set {σ : L2.St} {vs : List Nat} {i : Nat} {x : Option V} (h : i ∈ vs) : L2.wipe (σ.set i x) vs = L2.wipe σ vs :=
  wipe_ext (by simp) fun j hj => by
    have hne : i ≠ j := fun z => hj (z ▸ h)
    rw [List.getElem?_set_ne hne]
theorem wipe_wipe {σ : L2.St} {vs : List Nat} : L2.wipe (L2.wipe σ vs) vs = L2.wipe σ vs := wipe_ext (L2.wipe_length _ _) fun j hj => by rw [wipe_get, if_neg hj]
theorem asg_ok {e : Expr} (h : nostar e = true) (es : List Expr) (env : PySem.Env) : assignEach (e :: es) env = (false, assign e env) :: assignEach es env := by
  cases e <;> first | rfl | cases h
theorem asgs_ok : ∀ {es : List Expr}, es.all nostar = true → ∀ (env : PySem.Env), (assignEach es env).length = es.length ∧ (assignEach es env).findIdx? (·.1) = none
  | [], _, _ => ⟨rfl, rfl⟩
  | e :: es, h, env => by
    rw [List.all_cons, Bool.and_eq_true] at h
    obtain ⟨h1, h2⟩ := asgs_ok h.2 env
    rw [asg_ok h.1]
    exact ⟨by simp [h1], by simp [List.findIdx?_cons, h2]⟩
/-- an own target -/
def LGo (L : Lk) (own : List Nat) (wp : D → XD → Mn.Env → Hm → (Mn.Env → Hm → Prop) → Prop) : TG := fun v σ H Q => ∃ d r m Xd P, REnv L.F H r σ ∧ Rel L m H ∧ Rp L.F H d v ∧ wp d Xd r m P ∧
  ∀ r2 m2 σ2 H2, P r2 m2 → REnv L.F H2 r2 σ2 → Rel L m2 H2 → Kp H H2 → L2.wipe σ2 own = L2.wipe σ own → Q σ2 H2
def LGos (L : Lk) (own : List Nat) (wp : List D → XD → Mn.Env → Hm → (Mn.Env → Hm → Prop) → Prop) : TGs := fun v σ H Q => ∃ d r m Xd P, REnv L.F H r σ ∧ Rel L m H ∧ Rps L.F H d v ∧ d.length = v.length ∧ wp d Xd r m P ∧
  ∀ r2 m2 σ2 H2, P r2 m2 → REnv L.F H2 r2 σ2 → Rel L m2 H2 → Kp H H2 → L2.wipe σ2 own = L2.wipe σ own → Q σ2 H2
mutual
theorem own_t {g : Sg} {own : List Nat} {scope : Scope} {Y : Cx} (o : OwnX L N scope Y) : ∀ (tg : T) (pe : Expr), mTo N scope own tg pe = true → PG Y pe (LGo L own (wpT g tg))
  | .nm i, pe, hm => by
    simp only [mTo] at hm
    split at hm
    · simp only [Bool.and_eq_true, decide_eq_true_eq] at hm
      obtain ⟨⟨h1, h2⟩, h3⟩ := hm
      refine PG.weak (pg_name (i := i) (by rw [o.nn]; exact o.nd) (by rw [o.nn]; exact h1) (o.loc _ h3).1 (o.loc _ h3).2) fun v σ H Q ⟨d, r, m, Xd, P, re, rel, rv, hw, q⟩ => ?_
      exact q _ _ _ _ hw (re.set i rv) rel (.refl H) (wipe_set h2)
    · cases hm
  | .tp ts, pe, hm => by
    simp only [mTo] at hm
    split at hm
    · simp only [Bool.and_eq_true] at hm
      have h := pg_unp (pos := ‹Pos›) (k := ‹Nat›) (by exact o.calm) (own_ts (g := g) o ts _ hm.1) (asgs_ok hm.2 _).1 (asgs_ok hm.2 _).2
      rw [o.k] at h
      refine PG.weak h fun v σ H Q ⟨d, r, m, Xd, P, re, rel, rv, hw, q⟩ => ?_
      cases rv with
      | @tup ds a vs sa ra =>
        have hw : ds.length = lenT ts ∧ wpTs g ts ds Xd r m P := hw
        exact ⟨a, vs, rfl, .inl sa.sq, by rw [← ra.length, hw.1, mTos_len ts _ hm.1], ds, r, m, Xd, P, re, rel, ra, ra.length, hw.2, q⟩
      | ref a =>
        have hw : (match m a with
          | some (.lst ds) => ds.length = lenT ts ∧ wpTs g ts ds Xd r m P
          | _ => False) := hw
        cases e : m a with
        | none => rw [e] at hw; exact hw.elim
        | some o2 => cases o2 with
          | lst ds =>
            rw [e] at hw
            obtain ⟨vs, hv, ra⟩ := rel _ _ e
            exact ⟨a, vs, rfl, .inr (SqL.of hv), by rw [← ra.length, hw.1, mTos_len ts _ hm.1], ds, r, m, Xd, P, re, rel, ra, ra.length, hw.2, q⟩
          | _ => rw [e] at hw; exact hw.elim
      | _ => exact hw.elim
    · cases hm
  | .at_ _ _, _, hm => by simp [mTo] at hm
  | .sb _ _, _, hm => by simp [mTo] at hm
theorem own_ts {g : Sg} {own : List Nat} {scope : Scope} {Y : Cx} (o : OwnX L N scope Y) : ∀ (ts : Ts) (ps : List Expr), mTos N scope own ts ps = true → PGs Y ps (LGos L own (wpTs g ts))
  | .nil, [], _ => PGs.weak pgs_nil fun v σ H Q ⟨d, r, m, Xd, P, re, rel, rv, hl, hw, q⟩ => by
    cases rv with
    | nil => exact ⟨rfl, q r m σ H hw re rel (.refl H) rfl⟩
    | cons _ _ => exact hw.elim
  | .nil, _ :: _, hm => by simp [mTos] at hm
  | .cons _ _, [], hm => by simp [mTos] at hm
  | .cons tg ts, p :: ps, hm => by
    simp only [mTos, Bool.and_eq_true] at hm
    have hns : nostar p = true := by cases p <;> first | rfl | (cases tg <;> simp [mTo] at hm)
    refine PGs.weak (pgs_cons (own_t (g := g) o tg p hm.1) (own_ts (g := g) o ts ps hm.2) (by rw [asg_ok hns]; rfl)) fun v σ H Q ⟨d, r, m, Xd, P, re, rel, rv, hl, hw, q⟩ => ?_
    cases rv with
    | nil => exact hw.elim
    | @cons d1 v1 ds vs r1 rr =>
      have hw : wpT g tg d1 Xd r m (fun r1 m1 => wpTs g ts ds Xd r1 m1 P) := hw
      exact ⟨v1, vs, rfl, d1, r, m, Xd, _, re, rel, r1, hw, fun r2 m2 σ2 H2 hp re2 rel2 k2 hwp => ⟨ds, r2, m2, Xd, P, re2, rel2, rr.mono k2, rr.length, hp, fun r3 m3 σ3 H3 hp3 re3 rel3 k3 hw3 => q r3 m3 σ3 H3 hp3 re3 rel3 (k2.trans k3) (hw3.trans hwp)⟩⟩
theorem mTos_len {own : List Nat} {scope : Scope} : ∀ (ts : Ts) (ps : List Expr), mTos N scope own ts ps = true → lenT ts = ps.length
  | .nil, [], _ => rfl
  | .nil, _ :: _, hm => by simp [mTos] at hm
  | .cons _ _, [], hm => by simp [mTos] at hm
  | .cons _ ts, _ :: ps, hm => by
    simp only [mTos, Bool.and_eq_true] at hm
    simp only [lenT, List.length_cons, mTos_len ts ps hm.2]
end
end
end Mn
end

section
set_option Elab.async false
set_option linter.all false
set_option maxRecDepth 100000
set_option maxHeartbeats 4000000
namespace Mn
open PySem PySem.Spec PyProof.Rows L2 RZ
section
variable {exc : Nat → Option Addr} {L : Lk} {t : Tab} {n : Dn} {C : Nm} {N : List Str} {sc : Scope} {X : Cx} {W : WX}
theorem takesN {exc : Nat → Option Addr} {Y : Cx} : Tk (SX exc) Y (fun _ _ _ _ => False) := tk_never
/-- a comprehension stands in no except suite -/
theorem comp_cold {elt : E} {tg : T} {it : I} {cond : O} {own : List Nat} {pe : Expr} (hm : mE C N (.comp elt tg it cond own) sc pe = true) : (!C.hot) = true := by
  unfold mE at hm
  split at hm
  · simp only [Bool.and_eq_true] at hm
    exact hm.1.1.1.1.1.1.1
  · cases hm
theorem xlN {H : Hp} : XL exc L (fun _ _ _ _ => False) H XF := fun _ _ _ _ _ _ h _ _ _ _ => h.elim
theorem lookup_map (f : Str → NameKind → NameKind) : ∀ (l : List (Str × NameKind)) (x : Str), (l.map fun p => (p.1, f p.1 p.2)).lookup x = (l.lookup x).map (f x)
  | [], _ => rfl
  | (a, k) :: l, x => by
    simp only [List.map_cons, List.lookup]
    cases h : x == a with
    | true => rw [beq_iff_eq] at h; subst h; rfl
    | false => exact lookup_map f l x
def relF (sc : Scope) (n : Str) (k : NameKind) : NameKind := if (k == .free && sc.kind == .function && sc.names.lookup n == some .cell) then NameKind.cell else k
theorem relS_names (scope sc : Scope) : (relS scope sc).names = scope.names.map fun p => (p.1, relF sc p.1 p.2) := by
  unfold relS
  apply List.map_congr_left
  rintro ⟨a, k⟩ _
  unfold relF
  dsimp only
  split <;> rfl
theorem loc_blk {scope sc : Scope} {x : Str} (h : loc scope x = true) : Loc (relS scope sc) x ∧ ((scope.names.lookup x == some .cell) = true ∨ (relS scope sc).names.lookup x = some .local) := by
  unfold Mn.loc at h
  unfold L2.Loc
  rw [relS_names, lookup_map (relF sc)]
  split at h
  · rename_i e; rw [e]; exact ⟨.inl rfl, .inr rfl⟩
  · rename_i e; rw [e]; exact ⟨.inr rfl, .inl rfl⟩
  · cases h
theorem own_snd (own : List Nat) : (ownP N own).map (·.2) = own := by simp [ownP, List.map_map, Function.comp_def]
theorem Sta.of {Y : Cx} (a : Sta exc L t n C X) (e1 : Y.prog = X.prog) (e2 : Y.w = X.w) (e3 : Y.K = X.K) (e4 : Y.mg = X.mg) (e5 : Y.base = X.base) : Sta exc L t n C Y := by
  cases X; cases Y
  cases e1; cases e2; cases e3; cases e4; cases e5
  exact { k := a.k, w := a.w, nm := a.nm, inj := a.inj, okL := a.okL, fldL := a.fldL, okF := a.okF, blt := a.blt, con := a.con, fn := a.fn, fnh := a.fnh, met := a.met, mke := a.mke, cls := a.cls, att := a.att, exs := a.exs, exg := a.exg, exr := a.exr }
section
variable (cx : Ctx exc L t n C N sc X) (hh : n.hx = none)
include cx hh
theorem Ctx.blk (s : Shared) (H : Hp) (scope : Scope) (C1 : Addr) (cl : List (Str × Addr)) (fp : List Addr) : Ctx exc L t n C N (relS scope sc) (X.blk s H scope (compEnvC scope cl C1 X.env) fp) where
  sta := cx.sta.of rfl rfl rfl rfl rfl
  nn := cx.nn
  sc := by rw [← cx.sc]; rfl
  nd := cx.nd
  hot := cx.hot
  calm := cx.calm
  room := cx.room
  roomH := cx.roomH
  own := PassesOwn.never
  hld := fun h e => by rw [hh] at e; cases e
theorem Ctx.ownX (s : Shared) (H : Hp) (scope : Scope) (C1 : Addr) (cl : List (Str × Addr)) (fp : List Addr) : OwnX L N scope (X.blk s H scope (compEnvC scope cl C1 X.env) fp) where
  k := cx.sta.k
  nn := cx.nn
  nd := cx.nd
  calm := cx.calm hh
  loc := fun x h => by
    have h2 := loc_blk (sc := sc) h
    rw [← cx.sc] at h2
    exact h2
end
def tCond (exc : Nat → Option Addr) (L : Lk) (t : Tab) (n : Dn) : O → TT
  | .no => tYes
  | .yes c => LB exc L (fun _ _ _ _ => False) (wpE (sgh t n) c)
def condW (g : Sg) (elt : E) (cond : O) (Q1 : PD) (Q2 : Hm → Prop) (r3 : Mn.Env) (m3 : Hm) : Prop := match cond with
  | .no => wpE g elt XF r3 m3 Q1
  | .yes t => wpE g t XF r3 m3 fun y m4 => ∃ b, truth m4 y = some b ∧ if b = true then wpE g elt XF r3 m4 Q1 else Q2 m4
theorem wpE_comp {g : Sg} {elt : E} {tg : T} {it : I} {cond : O} {own : List Nat} {Xd : XD} {r : Mn.Env} {m : Hm} {P : PD} : wpE g (.comp elt tg it cond own) Xd r m P = wpI g it Xd r m fun xs st m1 => ∀ p, m1 p = none →
      compW p st (fun x m2 Q1 Q2 => wpT g tg x XF (Mn.wipe r own) m2 fun r3 m3 => condW g elt cond Q1 Q2 r3 m3) (fun m2 => P (.ref p) m2) xs (up m1 p (.lst [])) := by
  cases cond <;> rfl
theorem cond_ok {elt : E} {cond : O} {σ : L2.St} {H : Hp} {r : Mn.Env} {m : Hm} {Q1 : PD} {Q2 : Hm → Prop} {R1 : VK} {R2 : Hp → Prop} (re : REnv L.F H r σ) (rel : Rel L m H) (h : condW (sgh t n) elt cond Q1 Q2 r m)
    (k1 : Kt L H Q1 R1) (k2 : ∀ m2 H2, Q2 m2 → Rel L m2 H2 → Kp H H2 → R2 H2) :
    tCond exc L t n cond σ H fun b H3 => if b = true then LE exc L (fun _ _ _ _ => False) (wpE (sgh t n) elt) σ H3 R1 else R2 H3 := by
  cases cond with
  | no => exact ⟨r, m, Q1, XF, re, rel, h, k1, xlN⟩
  | yes c =>
    refine ⟨r, m, fun y m4 => ∃ b, truth m4 y = some b ∧ if b = true then wpE (sgh t n) elt XF r m4 Q1 else Q2 m4, XF, re, rel, h, fun x m2 v H2 ⟨b, hb, h2⟩ rv rel2 kp => ⟨b, hb, ?_⟩, xlN⟩
    cases b with
    | true => exact ⟨r, m2, Q1, XF, re.mono kp, rel2, h2, k1.mono kp, xlN⟩
    | false => exact k2 m2 H2 h2 rel2 kp
theorem up_D {m : Hm} {H : Hp} {D : Addr} {acc : List Mn.D} {y : Mn.D} {v : V} (rel : Rel L m H) (e : m D = some (.lst acc)) (ry : Rp L.F H y v) : ∃ ws, H D = some (.lst ws) ∧ ws.length = acc.length ∧ Kp H (upd H D (.lst (ws ++ [v]))) ∧ Rel L (up m D (.lst (acc ++ [y]))) (upd H D (.lst (ws ++ [v]))) := by
  obtain ⟨ws, h1, h2⟩ := rel _ _ e
  exact ⟨ws, h1, h2.length.symm, .over h1 trivial, rel.lst h1 (h2.append (.cons ry .nil))⟩
theorem lc_parts {elt : E} {tg : T} {it : I} {cond : O} (own : List Nat) (ge : GoE exc L t n C N elt) (gi : GoI exc L t n C N it) (gc : ∀ c, cond = .yes c → GoE exc L t n C N c) {pe : Expr} (hm : mE C N (.comp elt tg it cond own) sc pe = true) (cx : Ctx exc L t n C N sc X) (tk : Tk (SX exc) X W) :
    ∃ pelt ptg pit pifs scope pos wi gg tt te, pe = .ListComp pelt [⟨ptg, pit, pifs, 0⟩] scope pos ∧ PI X ptg pit wi ∧ BlkOk X.N X.env.scope scope (ownP N own) ∧
      (∀ (s : Shared) (H : Hp) (C1 : Addr) (cl : List (Str × Addr)) (fp : List Addr), PG (X.blk s H scope (compEnvC scope cl C1 X.env) fp) ptg gg) ∧ (∀ (s : Shared) (H : Hp) (C1 : Addr) (cl : List (Str × Addr)) (fp : List Addr), PTs (X.blk s H scope (compEnvC scope cl C1 X.env) fp) pifs tt) ∧
      (∀ (s : Shared) (H : Hp) (C1 : Addr) (cl : List (Str × Addr)) (fp : List Addr), PE (X.blk s H scope (compEnvC scope cl C1 X.env) fp) pelt te) ∧ (∀ x, foldedSetIterable pit X.env x = pure x) ∧
      ∀ σ H Q, LE exc L W (wpE (sgh t n) (.comp elt tg it cond own)) σ H Q → tLc wi gg tt te ((ownP N own).map (·.2)) σ H Q := by
  have hh := cx.cold (comp_cold hm)
  unfold mE at hm
  split at hm
  · rename_i pelt ptg pit pifs z scope pos
    simp only [Bool.and_eq_true, decide_eq_true_eq] at hm
    obtain ⟨⟨⟨⟨⟨⟨⟨_, h0⟩, h1⟩, h2⟩, h3⟩, h4⟩, h5⟩, h6⟩ := hm
    subst h0
    have bo := blkOk_by h2
    have hts : ∀ (s : Shared) (H : Hp) (C1 : Addr) (cl : List (Str × Addr)) (fp : List Addr), PTs (X.blk s H scope (compEnvC scope cl C1 X.env) fp) pifs (tCond exc L t n cond) := fun s H C1 cl fp => by
      split at h6
      · exact pts_nil
      · exact pts_one ((gc _ rfl) _ _ _ _ h6 (cx.blk hh s H scope C1 cl fp) takesN).2
      · cases h6
    refine ⟨pelt, ptg, pit, pifs, scope, pos, _, _, _, _, rfl, gi _ _ _ _ _ h3 cx tk, by rw [cx.nn, cx.sc]; exact bo,
      fun s H C1 cl fp => own_t (g := sgh t n) (cx.ownX hh s H scope C1 cl fp) tg ptg h4, hts, fun s H C1 cl fp => (ge _ _ _ _ h5 (cx.blk hh s H scope C1 cl fp) takesN).1, fun x => fold_ok h1 _ x, ?_⟩
    rw [own_snd]
    rintro σ H Q ⟨r, m, P, Xd, re, rel, hw, q, xl⟩
    rw [wpE_comp] at hw
    refine ⟨r, m, _, Xd, re, rel, hw, fun xs st m1 J H1 hp ito rel1 k1 => ?_, xl⟩
    intro D hD
    have hp := hp D (rel1.free hD)
    have k0 : Kp H1 (upd H1 D (.lst [])) := .new hD
    refine ⟨fun i μ H2 => μ = xs.length - i ∧ i ≤ xs.length ∧ ∃ m2, Rel L m2 H2 ∧ Kp H1 H2 ∧
      compW D st (fun x m2 Q1 Q2 => wpT (sgh t n) tg x XF (Mn.wipe r own) m2 fun r3 m3 => condW (sgh t n) elt cond Q1 Q2 r3 m3) (fun m2 => P (.ref D) m2) (xs.drop i) m2,
      ⟨xs.length, by omega, Nat.zero_le _, _, rel1.put (o := .lst []) k0 ⟨[], upd_same, .nil⟩, k0, by rw [List.drop_zero]; exact hp⟩, ?_⟩
    rintro i μ H2 ⟨rfl, hi, m2, rel2, k2, hc⟩
    by_cases hlt : i < xs.length
    · rw [List.drop_eq_getElem_cons hlt] at hc
      obtain ⟨hst, hc⟩ := hc
      obtain ⟨g1, g2⟩ := ito.go i xs[i] m2 H2 (by simp [hlt]) rel2 hst k2
      refine .inr ⟨g1, fun H3 => ∃ μ', μ' = xs.length - (i + 1) ∧ i + 1 ≤ xs.length ∧ ∃ m2, Rel L m2 H3 ∧ Kp H1 H3 ∧
        compW D st (fun x m2 Q1 Q2 => wpT (sgh t n) tg x XF (Mn.wipe r own) m2 fun r3 m3 => condW (sgh t n) elt cond Q1 Q2 r3 m3) (fun m2 => P (.ref D) m2) (xs.drop (i + 1)) m2,
        fun H3 ⟨μ', e1, e2, e3⟩ => ⟨μ', by omega, e1, e2, e3⟩, fun x H3 hy => ?_⟩
      obtain ⟨rx, rel3, k3⟩ := g2 x H3 hy
      have kk := k1.trans (k2.trans k3)
      refine ⟨xs[i], Mn.wipe r own, m2, XF, _, (re.mono kk).wipe own, rel3, rx, hc, fun r4 m4 σ4 H4 hq re4 rel4 k4 hwp => ⟨hwp.trans wipe_wipe, ?_⟩⟩
      refine cond_ok re4 rel4 hq (fun y m5 v H5 hacc ry rel5 k5 => ?_) fun m5 H5 hn rel5 k5 => ?_
      · obtain ⟨acc, e, hl, hcc⟩ := hacc
        obtain ⟨ws, w1, w2, w3, w4⟩ := up_D rel5 e ry
        exact ⟨ws, w1, by rw [w2]; exact SZ_line hl, _, rfl, hlt, _, w4, k2.trans (k3.trans (k4.trans (k5.trans w3))), hcc⟩
      · exact ⟨_, rfl, hlt, m5, rel5, k2.trans (k3.trans (k4.trans k5)), hn⟩
    · have e : i = xs.length := by omega
      subst e
      rw [List.drop_length] at hc
      exact .inl ⟨ito.stop m2 H2 rel2 hc.1 k2, q _ _ _ _ hc.2 (.ref D) rel2 (k1.trans k2)⟩
  · cases hm
theorem g_comp {elt : E} {tg : T} {it : I} {cond : O} (own : List Nat) (ge : GoE exc L t n C N elt) (gi : GoI exc L t n C N it) (gc : ∀ c, cond = .yes c → GoE exc L t n C N c) : GoE exc L t n C N (.comp elt tg it cond own) := fun sc X W pe hm cx tk => by
  have hh := cx.cold (comp_cold hm)
  obtain ⟨pelt, ptg, pit, pifs, scope, pos, wi, gg, tt, te, rfl, p1, p2, p3, p4, p5, p6, p7⟩ := lc_parts own ge gi gc hm cx tk
  exact .of cx.k rfl (PE.weak (pe_lc (cx.calm hh) (by rw [cx.nn]; exact cx.nd) p1 p2 p3 p4 p5 p6) p7)
theorem it_keys {kvs : List (Ky × Mn.D)} {kws : List (Key × V)} {od : Obj} {a : Addr} {Hx : Hp} (ha : Hx a = some (.frz od (.dK kws))) (r : KvR L.F Hx kyV kvs kws) : ItOk L Hx (Itk a od kws) (kvs.map fun kv => dOf kv.1) (fun _ => True) where
  stop := fun m H rel _ k => ⟨k.fz _ _ _ ha, by rw [List.length_map, r.len]; exact Nat.le_refl _⟩
  go := fun i x m H hx rel _ k => by
    have hi := (List.getElem?_eq_some_iff.mp hx).1
    rw [List.length_map, r.len] at hi
    refine ⟨⟨k.fz _ _ _ ha, hi⟩, fun v H2 ⟨e, kk, w, h1, h2⟩ => ?_⟩
    subst e h2
    obtain ⟨v, g1, g2⟩ := (keys_ok r).get hx
    rw [List.getElem?_map, h1] at g1
    cases g1
    exact ⟨g2.mono k, rel, .refl _⟩
theorem compD_cold {elt : E} {tg : T} {i : E} {cond : O} {own : List Nat} {pe : Expr} (hm : mE C N (.compD elt tg i cond own) sc pe = true) : (!C.hot) = true := by
  unfold mE at hm
  split at hm
  · simp only [Bool.and_eq_true] at hm
    exact hm.1.1.1.1.1.1
  · cases hm
theorem wpE_compD {g : Sg} {elt : E} {tg : T} {i : E} {cond : O} {own : List Nat} {Xd : XD} {r : Mn.Env} {m : Hm} {P : PD} : wpE g (.compD elt tg i cond own) Xd r m P = (∃ a kvs, m a = some (.dK kvs) ∧ wpE g i XF r (up m a (.fz kvs)) fun d m1 => d = .ref a ∧ m1 a = some (.fz kvs) ∧ ∀ p, m1 p = none →
      compW p (fun _ => True) (fun x m2 Q1 Q2 => wpT g tg x XF (Mn.wipe r own) m2 fun r3 m3 => condW g elt cond Q1 Q2 r3 m3) (fun m2 => P (.ref p) (up m2 a (.dK kvs))) (kvs.map fun kv => dOf kv.1) (up m1 p (.lst []))) := by
  cases cond <;> rfl
theorem lcD_parts {elt : E} {tg : T} {i : E} {cond : O} (own : List Nat) (ge : GoE exc L t n C N elt) (gi : GoE exc L t n C N i) (gc : ∀ c, cond = .yes c → GoE exc L t n C N c) {pe : Expr} (hm : mE C N (.compD elt tg i cond own) sc pe = true) (cx : Ctx exc L t n C N sc X) (tk : Tk (SX exc) X W) :
    ∃ pelt ptg pit pifs scope pos wi gg tt te, pe = .ListComp pelt [⟨ptg, pit, pifs, 0⟩] scope pos ∧ PI X ptg pit wi ∧ BlkOk X.N X.env.scope scope (ownP N own) ∧
      (∀ (s : Shared) (H : Hp) (C1 : Addr) (cl : List (Str × Addr)) (fp : List Addr), PG (X.blk s H scope (compEnvC scope cl C1 X.env) fp) ptg gg) ∧ (∀ (s : Shared) (H : Hp) (C1 : Addr) (cl : List (Str × Addr)) (fp : List Addr), PTs (X.blk s H scope (compEnvC scope cl C1 X.env) fp) pifs tt) ∧
      (∀ (s : Shared) (H : Hp) (C1 : Addr) (cl : List (Str × Addr)) (fp : List Addr), PE (X.blk s H scope (compEnvC scope cl C1 X.env) fp) pelt te) ∧ (∀ x, foldedSetIterable pit X.env x = pure x) ∧
      ∀ σ H Q, LE exc L W (wpE (sgh t n) (.compD elt tg i cond own)) σ H Q → tLockE (tLc wi gg tt te ((ownP N own).map (·.2))) σ H Q := by
  have hh := cx.cold (compD_cold hm)
  unfold mE at hm
  split at hm
  · rename_i pelt ptg pit pifs z scope pos
    simp only [Bool.and_eq_true, decide_eq_true_eq] at hm
    obtain ⟨⟨⟨⟨⟨⟨_, h0⟩, h2⟩, ⟨n1, n2⟩⟩, h4⟩, h5⟩, h6⟩ := hm
    subst h0
    have bo := blkOk_by h2
    have pk := pi_keys (tg := ptg) (gi _ _ _ _ n2 cx takesN).1
    have hts : ∀ (s : Shared) (H : Hp) (C1 : Addr) (cl : List (Str × Addr)) (fp : List Addr), PTs (X.blk s H scope (compEnvC scope cl C1 X.env) fp) pifs (tCond exc L t n cond) := fun s H C1 cl fp => by
      split at h6
      · exact pts_nil
      · exact pts_one ((gc _ rfl) _ _ _ _ h6 (cx.blk hh s H scope C1 cl fp) takesN).2
      · cases h6
    refine ⟨pelt, ptg, pit, pifs, scope, pos, _, _, _, _, rfl, pk, by rw [cx.nn, cx.sc]; exact bo,
      fun s H C1 cl fp => own_t (g := sgh t n) (cx.ownX hh s H scope C1 cl fp) tg ptg h4, hts, fun s H C1 cl fp => (ge _ _ _ _ h5 (cx.blk hh s H scope C1 cl fp) takesN).1, fun x => fold_ok n1 _ x, ?_⟩
    rw [own_snd]
    rintro σ H Q ⟨r, m, P, Xd, re, rel, hw, q, xl⟩
    rw [wpE_compD] at hw
    obtain ⟨a, kvs, hma, hw⟩ := hw
    obtain ⟨kws, ha, r0⟩ := rel _ _ hma
    refine ⟨a, .dK kws, ha, trivial, fun od => ?_⟩
    have kl : Kp H (upd H a (.frz od (.dK kws))) := .lock ha
    have rel1 : Rel L (up m a (.fz kvs)) (upd H a (.frz od (.dK kws))) := rel.lock ha r0
    have re1 := re.mono kl
    have r1 := r0.mono kl
    have hfa : (upd H a (.frz od (.dK kws))) a = some (.frz od (.dK kws)) := upd_same
    have hth : ∀ (o : HO) (H2 : Hp), Kp (upd H a (.frz od (.dK kws))) H2 → Kp H (upd H2 a o) := fun o H2 k => .through ha k
    generalize upd H a (.frz od (.dK kws)) = H0 at rel1 re1 r1 hfa hth ⊢
    refine ⟨r, _, _, XF, re1, rel1, hw, fun d m1 v H1 hp rv rel1 k2 => ?_, xlN⟩
    obtain ⟨rfl, hz, hp⟩ := hp
    cases rv
    refine ⟨a, od, rfl, .inl ⟨kws, k2.fz _ _ _ hfa, ?_⟩⟩
    have re1 := re1.mono k2
    have r1 := r1.mono k2
    have hth : ∀ (o : HO) (H2 : Hp), Kp H1 H2 → Kp H (upd H2 a o) := fun o H2 k => hth o H2 (k2.trans k)
    have hfa := k2.fz _ _ _ hfa
    have ito : ItOk L H1 (Itk a od kws) (kvs.map fun kv => dOf kv.1) (fun _ => True) := it_keys hfa r1
    generalize hx9 : (kvs.map fun kv => dOf kv.1) = xs at hp ito
    intro D hD
    have hp := hp D (rel1.free hD)
    have k0 : Kp H1 (upd H1 D (.lst [])) := .new hD
    refine ⟨fun i μ H2 => μ = xs.length - i ∧ i ≤ xs.length ∧ ∃ m2, Rel L m2 H2 ∧ Kp H1 H2 ∧
      compW D (fun _ => True) (fun x m2 Q1 Q2 => wpT (sgh t n) tg x XF (Mn.wipe r own) m2 fun r3 m3 => condW (sgh t n) elt cond Q1 Q2 r3 m3) (fun m2 => P (.ref D) (up m2 a (.dK kvs))) (xs.drop i) m2,
      ⟨xs.length, by omega, Nat.zero_le _, _, rel1.put (o := .lst []) k0 ⟨[], upd_same, .nil⟩, k0, by rw [List.drop_zero]; exact hp⟩, ?_⟩
    rintro i μ H2 ⟨rfl, hi, m2, rel2, k2, hc⟩
    by_cases hlt : i < xs.length
    · rw [List.drop_eq_getElem_cons hlt] at hc
      obtain ⟨hst, hc⟩ := hc
      obtain ⟨g1, g2⟩ := ito.go i xs[i] m2 H2 (by simp [hlt]) rel2 hst k2
      refine .inr ⟨g1, fun H3 => ∃ μ', μ' = xs.length - (i + 1) ∧ i + 1 ≤ xs.length ∧ ∃ m2, Rel L m2 H3 ∧ Kp H1 H3 ∧
        compW D (fun _ => True) (fun x m2 Q1 Q2 => wpT (sgh t n) tg x XF (Mn.wipe r own) m2 fun r3 m3 => condW (sgh t n) elt cond Q1 Q2 r3 m3) (fun m2 => P (.ref D) (up m2 a (.dK kvs))) (xs.drop (i + 1)) m2,
        fun H3 ⟨μ', e1, e2, e3⟩ => ⟨μ', by omega, e1, e2, e3⟩, fun x H3 hy => ?_⟩
      obtain ⟨rx, rel3, k3⟩ := g2 x H3 hy
      have kk := k2.trans k3
      refine ⟨xs[i], Mn.wipe r own, m2, XF, _, (re1.mono kk).wipe own, rel3, rx, hc, fun r4 m4 σ4 H4 hq re4 rel4 k4 hwp => ⟨hwp.trans wipe_wipe, ?_⟩⟩
      refine cond_ok re4 rel4 hq (fun y m5 v H5 hacc ry rel5 k5 => ?_) fun m5 H5 hn rel5 k5 => ?_
      · obtain ⟨acc, e, hl, hcc⟩ := hacc
        obtain ⟨ws, w1, w2, w3, w4⟩ := up_D rel5 e ry
        exact ⟨ws, w1, by rw [w2]; exact SZ_line hl, _, rfl, hlt, _, w4, k2.trans (k3.trans (k4.trans (k5.trans w3))), hcc⟩
      · exact ⟨_, rfl, hlt, m5, rel5, k2.trans (k3.trans (k4.trans k5)), hn⟩
    · have e : i = xs.length := by omega
      subst e
      rw [List.drop_length] at hc
      have hf2 := k2.fz _ _ _ hfa
      exact .inl ⟨ito.stop m2 H2 rel2 hc.1 k2, hf2, q _ _ _ _ hc.2 (.ref D) (rel2.unlock hf2 (r1.mono k2)) (hth _ _ k2)⟩
  · cases hm
theorem g_compD {elt : E} {tg : T} {i : E} {cond : O} (own : List Nat) (ge : GoE exc L t n C N elt) (gi : GoE exc L t n C N i) (gc : ∀ c, cond = .yes c → GoE exc L t n C N c) : GoE exc L t n C N (.compD elt tg i cond own) := fun sc X W pe hm cx tk => by
  have hh := cx.cold (compD_cold hm)
  obtain ⟨pelt, ptg, pit, pifs, scope, pos, wi, gg, tt, te, rfl, p1, p2, p3, p4, p5, p6, p7⟩ := lcD_parts own ge gi gc hm cx tk
  exact .of cx.k rfl (PE.weak (pe_lock (pe_lc (cx.calm hh) (by rw [cx.nn]; exact cx.nd) p1 p2 p3 p4 p5 p6)) p7)
def GoJ (exc : Nat → Option Addr) (L : Lk) (t : Tab) (n : Dn) (C : Nm) (N : List Str) (e : Es) : Prop := ∀ (sc : Scope) (X : Cx) (W : WX) (ps : List Expr), mJs C N e sc ps = true → Ctx exc L t n C N sc X → Tk (SX exc) X W → ∃ ts, PJ X ps ts ∧
  ∀ acc r m P Xd σ H Q, REnv L.F H r σ → Rel L m H → wpJ (sgh t n) e acc Xd r m P → Kt L H P Q → XL exc L W H Xd → tJs ts (toS acc) σ H fun out H1 => Q (.str out) H1
theorem g_jnil : GoJ exc L t n C N .nil := fun sc X W ps hm cx tk => by
  simp only [mJs, List.isEmpty_iff] at hm
  subst hm
  exact ⟨[], .nil, fun acc r m P Xd σ H Q re rel hw q xl => q.here hw (.str acc) rel⟩
theorem g_jcons {e : E} {es : Es} (ge : GoE exc L t n C N e) (gj : GoJ exc L t n C N es) : GoJ exc L t n C N (.cons e es) := fun sc X W ps hm cx tk => by
  cases ps with
  | nil => simp [mJs] at hm
  | cons p ps =>
    simp only [mJs, Bool.and_eq_true] at hm
    obtain ⟨hm1, hm2⟩ := hm
    obtain ⟨ts, hpj, hk⟩ := gj _ _ _ _ hm1 cx tk
    split at hm2
    · simp only [Bool.and_eq_true, decide_eq_true_eq] at hm2
      obtain ⟨hc, he⟩ := hm2
      subst hc
      refine ⟨_ :: ts, .cons (pe_fmt (ge _ _ _ _ he cx tk).1) hpj, fun acc r m P Xd σ H Q re rel hw q xl => ?_⟩
      refine ⟨r, m, fun d m1 => ∃ s, fmtD d = some s ∧ acc.length + s.length ≤ SZ ∧ wpJ (sgh t n) es (acc ++ s) Xd r m1 P, Xd, re, rel, hw, fun d m2 v H2 ⟨s, h1, h2, h3⟩ rv rel2 k2 => ?_, xl⟩
      have fin : ∃ y : Str, V.str (toS s) = .str y ∧ (toS acc ++ y).length ≤ sizeLine ∧ tJs ts (toS acc ++ y) σ H2 fun out H1 => Q (.str out) H1 := by
        refine ⟨toS s, rfl, ?_, ?_⟩
        · rw [toS_app, toS_len, List.length_append]
          exact SZ_line h2
        · rw [toS_app]
          exact hk _ r m2 P Xd σ H2 Q (re.mono k2) rel2 h3 (q.mono k2) (xl.mono k2)
      cases rv with
      | str s2 =>
        have h1 : (if s2.length ≤ SZ then some s2 else none) = some s := h1
        split at h1
        · rename_i hz
          have e2 : s = s2 := (Option.some.inj h1).symm
          subst e2
          exact .inl ⟨toS s, rfl, by rw [toS_len]; exact SZ_line hz, fin⟩
        · cases h1
      | int i =>
        have h1 : (if i.natAbs.log2 < 1920 then some (digitsT i) else none) = some s := h1
        split at h1
        · rename_i hz
          cases h1
          refine .inr ⟨i, rfl, hz, ?_⟩
          have e2 := digits_ok i
          show ∃ y : Str, V.str (Str.ofString (toString i)) = .str y ∧ _
          rw [e2]
          exact fin
        · cases h1
      | _ => simp [fmtD] at h1
    · simp only [Bool.and_eq_true] at hm2
      obtain ⟨h1, he⟩ := hm2
      refine ⟨_ :: ts, .cons (ge _ _ _ _ he cx tk).1 hpj, fun acc r m P Xd σ H Q re rel hw q xl => ?_⟩
      cases e with
      | txt s =>
        have h1 : decide (s.length ≤ SZ) = true := h1
        have hw : ∃ s2, fmtD (.str s) = some s2 ∧ acc.length + s2.length ≤ SZ ∧ wpJ (sgh t n) es (acc ++ s2) Xd r m P := hw
        obtain ⟨s2, w1, w2, w3⟩ := hw
        have e2 : s2 = s := by
          have w1 : (if s.length ≤ SZ then some s else none) = some s2 := w1
          rw [if_pos (of_decide_eq_true h1)] at w1
          exact (Option.some.inj w1).symm
        subst e2
        refine ⟨r, m, fun d m1 => d = .str s2 ∧ wpJ (sgh t n) es (acc ++ s2) Xd r m1 P, Xd, re, rel, ⟨rfl, w3⟩, fun d m2 v H2 ⟨h1, h3⟩ rv rel2 k2 => ?_, xl⟩
        subst h1
        cases rv
        refine ⟨toS s2, rfl, ?_, ?_⟩
        · rw [toS_app, toS_len, List.length_append]
          exact SZ_line w2
        · rw [toS_app]
          exact hk _ r m2 P Xd σ H2 Q (re.mono k2) rel2 h3 (q.mono k2) (xl.mono k2)
      | _ => cases h1
def GoD (exc : Nat → Option Addr) (L : Lk) (t : Tab) (n : Dn) (C : Nm) (N : List Str) (e : Es) : Prop := ∀ (ks : List Ky) (sc : Scope) (X : Cx) (W : WX) (kes : List (Option Expr)) (ves : List Expr) (pos : Pos), mKs ks kes = true → mEs C N e sc ves = true → ves.length = ks.length → Ctx exc L t n C N sc X → Tk (SX exc) X W →
  ∃ trs, PPs X pos kes ves trs ∧ kes.length = ks.length ∧ kes.all (·.isSome) = true ∧ ∀ r m P Xd σ H Q, REnv L.F H r σ → Rel L m H → wpEs (sgh t n) e Xd r m P →
    (∀ ds m2 vs H2, P ds m2 → Rps L.F H2 ds vs → Rel L m2 H2 → Kp H H2 → Q ((ks.map fun k => kV (kyV k)).zip vs) H2) → XL exc L W H Xd → tPairs trs σ H Q
theorem g_dnil : GoD exc L t n C N .nil := fun ks sc X W kes ves pos h1 h2 h3 cx tk => by
  simp only [mEs, List.isEmpty_iff] at h2
  subst h2
  obtain rfl : ks = [] := List.length_eq_zero_iff.mp h3.symm
  simp only [mKs, List.isEmpty_iff] at h1
  subst h1
  exact ⟨[], pps_nil, rfl, rfl, fun r m P Xd σ H Q re rel hw q xl => q [] m [] H hw .nil rel (.refl H)⟩
theorem g_dcons {e : E} {es : Es} (ge : GoE exc L t n C N e) (gd : GoD exc L t n C N es) : GoD exc L t n C N (.cons e es) := fun ks sc X W kes ves pos h1 h2 h3 cx tk => by
  cases ves with
  | nil => simp [mEs] at h2
  | cons p ps =>
    cases ks with
    | nil => simp at h3
    | cons k ks =>
      simp only [mKs] at h1
      split at h1
      · rename_i pk pks
        simp only [mEs, Bool.and_eq_true] at h1 h2
        obtain ⟨trs, g1, g2, g3, g4⟩ := gd ks sc X W pks ps pos h1.2 h2.2 (by simpa using h3) cx tk
        have hv := (ge _ _ _ _ h2.1 cx tk).1
        have hkey : PE X pk (fun σ H Q => Q (kV (kyV k)) H) := by
          have h1 := h1.1
          split at h1
          · have h1 := of_decide_eq_true h1
            subst h1
            exact pe_int
          · have h1 := of_decide_eq_true h1
            subst h1
            exact pe_str
          · cases h1
        refine ⟨_ :: trs, pps_cons hkey hv g1, by simp [g2], by simp only [List.all_cons, g3]; rfl, fun r m P Xd σ H Q re rel hw q xl => ?_⟩
        show (LE exc L W (wpE (sgh t n) e)) σ H _
        refine ⟨r, m, fun d m1 => wpEs (sgh t n) es Xd r m1 fun ds m2 => P (d :: ds) m2, Xd, re, rel, hw, fun d m2 v H2 hp rv rel2 k2 => ?_, xl⟩
        refine g4 r m2 _ Xd σ H2 _ (re.mono k2) rel2 hp (fun ds m3 vs H3 hp3 rs rel3 k3 => ?_) (xl.mono k2)
        exact q (d :: ds) m3 (v :: vs) H3 hp3 (.cons (rv.mono k3) rs) rel3 (k2.trans k3)
      · cases h1
theorem fu_pe {X : Cx} {L : Lk} (hk : X.K = L.F) {f : Fu} {as : List Expr} {ta : TA} {p p2 q pos : Pos} (hg : Gl X (fuN f).1) (hm : X.mg (fuN f).1 = none) (hg2 : Gl X (fuN f).2) (hm2 : X.mg (fuN f).2 = none) (ha : PA X as ta) (hc : X.calm = true) (hu : X.A.units + 65 < cLine) (hs : as.all nostar = true) (hl : as.length = fuA f) :
    PE X (.Call (.Name (fuN f).1 p) [.Call (.Name (fuN f).2 p2) as [] q] [] pos) (fun σ H Q => ta σ H fun vs H1 => fuR X.K f vs H1 Q) := by
  cases f with
  | lenT => cases as with
    | nil => cases hl
    | cons a as => cases as with
      | cons _ _ => simp [fuA] at hl
      | nil => exact pe_lenTups hg hm hg2 hm2 ha hc (by omega) (star_ok (by simpa using hs) _ _)
  | sortN => cases as with
    | nil => cases hl
    | cons a as => cases as with
      | cons _ _ => simp [fuA] at hl
      | nil => exact pe_sortSetN hk hg hm hg2 hm2 ha hc hu (star_ok (by simpa using hs) _ _)
theorem g_fus {es : Es} (f : Fu) (gs : GoEs exc L t n C N es) : GoE exc L t n C N (.fus f es) := fun sc X W pe hm cx tk => by
  simp only [mE] at hm
  split at hm
  · simp only [Bool.and_eq_true, decide_eq_true_eq] at hm
    obtain ⟨⟨⟨⟨⟨⟨⟨hc0, h1⟩, h2⟩, h3⟩, h4⟩, h5⟩, h6⟩, h7⟩ := hm
    subst h1 h3
    have hh := cx.cold hc0
    have hA := gs _ _ _ _ h7 cx tk
    have hb : isBlt (fuN f).1 = true ∧ isBlt (fuN f).2 = true := by cases f <;> decide +kernel
    have h := fun p1 p2 p3 p4 : Pos => fu_pe cx.k (p := p1) (p2 := p2) (q := p3) (pos := p4) (cx.gl h2) (cx.sta.blt _ hb.1) (cx.gl h4) (cx.sta.blt _ hb.2) hA.pa (cx.calm hh) (by have := cx.un; omega) h5 h6
    rw [cx.k] at h
    exact .of cx.k rfl (PE.weak (h _ _ _ _) fun σ H Q q => q.args (kk := fun Xd r P ds m1 => fuW f ds m1 P) (fun _ _ _ _ h => h) fun Xd r P xs m1 vs H1 hl re rel xl q h rv => fu_ok h rv rel q)
  · cases hm
end
section
variable {exc : Nat → Option Addr} {L : Lk} {t : Tab} {n : Dn} {C : Nm} {N : List Str}
mutual
theorem goE : ∀ e : E, GoE exc L t n C N e
  | .var i => g_var i
  | .non => g_non
  | .bl b => g_bl b
  | .num i => g_num i
  | .txt s => g_txt s
  | .glob k d => g_glob k d
  | .bin op a b => g_bin op (goE a) (goE b)
  | .neg a => g_neg (goE a)
  | .cmp op a b => g_cmp op (goE a) (goE b)
  | .cmp2 op op2 a b c => g_cmp2 op op2 (goE a) (goE b) (goE c)
  | .and_ es => g_and (goEs es)
  | .or_ es => g_or (goEs es)
  | .not_ a => g_not (goE a)
  | .ifx c a b => g_ifx (goE c) (goE a) (goE b)
  | .call f es => g_call f (goEs es)
  | .meth k o es => g_meth k (goE o) (goEs es)
  | .make f es => g_make f (goEs es)
  | .bcall f es => g_bcall f (goEs es)
  | .bmeth f o es => g_bmeth f (goE o) (goEs es)
  | .isin a ts => g_isin ts (goE a)
  | .attr f o => g_attr f (goE o)
  | .idx a i => g_idx (goE a) (goE i)
  | .slc a lo hi => g_slc (goE a) (goO lo) (goO hi)
  | .rev a => g_rev (goE a)
  | .tup es => g_tup (goEs es)
  | .lst es => g_lst (goEs es)
  | .dctK => g_dctK
  | .lenS e => g_lenS (goE e)
  | .fus f es => g_fus f (goEs es)
  | .comp elt tg it .no own => g_comp own (goE elt) (goI it) fun c h => nomatch h
  | .comp elt tg it (.yes c) own => g_comp own (goE elt) (goI it) fun c2 h => by cases h; exact goE c
  | .compD elt tg i .no own => g_compD own (goE elt) (goE i) fun c h => nomatch h
  | .compD elt tg i (.yes c) own => g_compD own (goE elt) (goE i) fun c2 h => by cases h; exact goE c
theorem goJ : ∀ e : Es, GoJ exc L t n C N e
  | .nil => g_jnil
  | .cons e es => g_jcons (goE e) (goJ es)
theorem goD : ∀ e : Es, GoD exc L t n C N e
  | .nil => g_dnil
  | .cons e es => g_dcons (goE e) (goD es)
theorem goEs : ∀ e : Es, GoEs exc L t n C N e
  | .nil => g_nil
  | .cons e es => g_cons (goE e) (goEs es)
theorem goO : ∀ e : O, GoO exc L t n C N e
  | .no => g_no
  | .yes e => g_yes (goE e)
theorem goI : ∀ e : I, GoI exc L t n C N e
  | .val e => g_val (goE e)
  | .rng es => g_rng (goEs es)
  | .enum e => g_enum (goE e)
  | .zip a b => g_zip (goE a) (goE b)
end
end
end Mn
end

section
set_option Elab.async false
set_option linter.all false
set_option maxRecDepth 100000
set_option maxHeartbeats 4000000
namespace Mn
open PySem PySem.Spec PyProof.Rows L2 RZ
/-- a comprehension that is stored while its block stands -/
def swC (sc : Scope) (x : Str) (px : Pos) (pe : Expr) : Bool := match pe with
  | .ListComp _ _ scope pos => lo_ sc x && (px.line == pos.line) && !(scope.names.any fun (n, k) => n == x && (k == .local || k == .cell))
  | _ => false
def KD (L : Lk) (H : Hp) (Q : K) (D : Ends) : Prop := (∀ r m σ H2, Q.nx r m → REnv L.F H2 r σ → Rel L m H2 → Kp H H2 → D.nx σ H2) ∧ Kt L H Q.rt D.rt ∧
  (∀ r m σ H2, Q.bk r m → REnv L.F H2 r σ → Rel L m H2 → Kp H H2 → D.bk σ H2) ∧ (∀ r m σ H2, Q.ct r m → REnv L.F H2 r σ → Rel L m H2 → Kp H H2 → D.ct σ H2)
theorem KD.mono {L : Lk} {H H2 : Hp} {Q : K} {D : Ends} (q : KD L H Q D) (k : Kp H H2) : KD L H2 Q D :=
  ⟨fun r m σ H3 h re rel k3 => q.1 r m σ H3 h re rel (k.trans k3), q.2.1.mono k, fun r m σ H3 h re rel k3 => q.2.2.1 r m σ H3 h re rel (k.trans k3), fun r m σ H3 h re rel k3 => q.2.2.2 r m σ H3 h re rel (k.trans k3)⟩
abbrev WpS := XD → Mn.Env → Hm → K → Prop
def LS (exc : Nat → Option Addr) (L : Lk) (W : WX) (wp : WpS) : TS := fun D σ H => ∃ r m Q Xd, REnv L.F H r σ ∧ Rel L m H ∧ wp Xd r m Q ∧ KD L H Q D ∧ XL exc L W H Xd
def GoS (exc : Nat → Option Addr) (L : Lk) (t : Tab) (n : Dn) (C : Nm) (N : List Str) (s : S) : Prop := ∀ (sc : Scope) (X : Cx) (W : WX) (ps : Stmt), mS N C s sc ps = true → SCtx exc L t n C N sc X → Tk (SX exc) X W → PS X ps (LS exc L W fun Xd r m Q => wpS (sgh t n) Xd s r m Q)
def GoSs (exc : Nat → Option Addr) (L : Lk) (t : Tab) (n : Dn) (C : Nm) (N : List Str) (s : Ss) : Prop := ∀ (sc : Scope) (X : Cx) (W : WX) (ps : List Stmt), mSs N C s sc ps = true → SCtx exc L t n C N sc X → Tk (SX exc) X W → PSs X ps (LS exc L W fun Xd r m Q => wpSs (sgh t n) Xd s r m Q)
section
variable {exc : Nat → Option Addr} {L : Lk} {t : Tab} {n : Dn} {C : Nm} {N : List Str} {sc : Scope} {X : Cx} {W : WX}
section
variable (cx : SCtx exc L t n C N sc X)
include cx
theorem SCtx.loc {x : Str} (h : loc sc x = true) : L2.Loc X.env.scope x := by
  rw [cx.sc]
  unfold Mn.loc at h
  unfold L2.Loc
  split at h
  · exact .inl (by assumption)
  · exact .inr (by assumption)
  · cases h
theorem SCtx.ownX (hh : n.hx = none) : OwnX L N sc X := ⟨cx.sta.k, cx.nn, cx.nd, cx.calm hh, fun x h => ⟨cx.loc h, .inl (cx.fn x)⟩⟩
end
theorem LS.bd {w : WpS} {we : WpE} {D : Ends} {σ : L2.St} {H : Hp} {R : VK} (q : LS exc L W w D σ H) {k : XD → Mn.Env → K → PD} (hw : ∀ Xd r m Q, w Xd r m Q → we Xd r m (k Xd r Q))
    (hk : ∀ Xd r Q x m v H1, REnv L.F H1 r σ → Rel L m H1 → XL exc L W H1 Xd → KD L H1 Q D → k Xd r Q x m → Rp L.F H1 x v → R v H1) : LE exc L W we σ H R := by
  obtain ⟨r, m, Q, Xd, re, rel, h, q, xl⟩ := q
  exact ⟨r, m, k Xd r Q, Xd, re, rel, hw _ _ _ _ h, fun d m2 v H2 hp rv rel2 k2 => hk Xd r Q d m2 v H2 (re.mono k2) rel2 (xl.mono k2) (q.mono k2) hp rv, xl⟩
theorem s_pass : GoS exc L t n C N .pass := fun sc X W ps hm cx tk => by
  simp only [mS] at hm
  split at hm
  · exact PS.weak ps_pass fun D σ H ⟨r, m, Q, Xd, re, rel, h, q, xl⟩ => q.1 r m σ H h re rel (.refl H)
  · cases hm
theorem s_brk : GoS exc L t n C N .brk := fun sc X W ps hm cx tk => by
  simp only [mS] at hm
  split at hm
  · exact PS.weak ps_break fun D σ H ⟨r, m, Q, Xd, re, rel, h, q, xl⟩ => q.2.2.1 r m σ H h re rel (.refl H)
  · cases hm
theorem s_cnt : GoS exc L t n C N .cnt := fun sc X W ps hm cx tk => by
  simp only [mS] at hm
  split at hm
  · exact PS.weak ps_continue fun D σ H ⟨r, m, Q, Xd, re, rel, h, q, xl⟩ => q.2.2.2 r m σ H h re rel (.refl H)
  · cases hm
theorem s_ret0 : GoS exc L t n C N .ret0 := fun sc X W ps hm cx tk => by
  simp only [mS] at hm
  split at hm
  · exact PS.weak ps_retN fun D σ H ⟨r, m, Q, Xd, re, rel, h, q, xl⟩ => q.2.1.here h .non rel
  · cases hm
theorem s_nev : GoS exc L t n C N .nev := fun sc X W ps hm cx tk => PS.weak ps_never fun D σ H ⟨r, m, Q, Xd, re, rel, h, q, xl⟩ => h
theorem s_ex (e : E) : GoS exc L t n C N (.ex e) := fun sc X W ps hm cx tk => by
  simp only [mS] at hm
  split at hm
  · simp only [Bool.and_eq_true] at hm
    exact PS.weak (ps_expr (goE e _ _ _ _ hm.2 cx.toCtx tk).1 (swap_ok hm.1 _ _ _)) fun D σ H q => q.bd (k := fun Xd r Q _ m1 => Q.nx r m1) (fun _ _ _ _ h => h) fun Xd r Q x m v H1 re rel xl q h rv => q.1 r m σ H1 h re rel (.refl H1)
  · cases hm
theorem s_ret (e : E) : GoS exc L t n C N (.ret e) := fun sc X W ps hm cx tk => by
  simp only [mS] at hm
  split at hm
  · exact PS.weak (ps_ret (goE e _ _ _ _ hm cx.toCtx tk).1) fun D σ H ⟨r, m, Q, Xd, re, rel, h, q, xl⟩ => ⟨r, m, Q.rt, Xd, re, rel, h, q.2.1, xl⟩
  · cases hm
theorem s_ife {c : E} {a b : Ss} (ga : GoSs exc L t n C N a) (gb : GoSs exc L t n C N b) : GoS exc L t n C N (.ife c a b) := fun sc X W ps hm cx tk => by
  simp only [mS] at hm
  split at hm
  · simp only [Bool.and_eq_true] at hm
    obtain ⟨⟨h1, h2⟩, h3⟩ := hm
    refine PS.weak (ps_if (goE c _ _ _ _ h1 cx.toCtx tk).2 (ga _ _ _ _ h2 cx tk) (gb _ _ _ _ h3 cx tk)) fun D σ H ⟨r, m, Q, Xd, re, rel, h, q, xl⟩ => ?_
    refine ⟨r, m, fun x m1 => ∃ k, truth m1 x = some k ∧ if k = true then wpSs (sgh t n) Xd a r m1 Q else wpSs (sgh t n) Xd b r m1 Q, Xd, re, rel, h, fun x m2 v H2 ⟨k, hk, h2⟩ rv rel2 k2 => ⟨k, hk, ?_⟩, xl⟩
    cases k with
    | true => exact ⟨r, m2, Q, Xd, re.mono k2, rel2, h2, q.mono k2, xl.mono k2⟩
    | false => exact ⟨r, m2, Q, Xd, re.mono k2, rel2, h2, q.mono k2, xl.mono k2⟩
  · cases hm
theorem ss_nil : GoSs exc L t n C N .nil := fun sc X W ps hm cx tk => by
  cases ps with
  | nil => exact PSs.weak pss_nil fun D σ H ⟨r, m, Q, Xd, re, rel, h, q, xl⟩ => q.1 r m σ H h re rel (.refl H)
  | cons _ _ => simp [mSs] at hm
theorem ss_cons {s : S} {ss : Ss} (g : GoS exc L t n C N s) (gs : GoSs exc L t n C N ss) : GoSs exc L t n C N (.cons s ss) := fun sc X W ps hm cx tk => by
  cases ps with
  | nil => simp [mSs] at hm
  | cons p ps =>
    simp only [mSs, Bool.and_eq_true] at hm
    refine PSs.weak (pss_cons (g _ _ _ _ hm.1 cx tk) (gs _ _ _ _ hm.2 cx tk)) fun D σ H ⟨r, m, Q, Xd, re, rel, h, q, xl⟩ => ?_
    exact ⟨r, m, _, Xd, re, rel, h, ⟨fun r2 m2 σ2 H2 hp re2 rel2 k2 => ⟨r2, m2, Q, Xd, re2, rel2, hp, q.mono k2, xl.mono k2⟩, q.2⟩, xl⟩
theorem s_whl {c : E} {b : Ss} (gb : GoSs exc L t n C N b) : GoS exc L t n C N (.whl c b) := fun sc X W ps hm cx tk => by
  simp only [mS] at hm
  split at hm
  · simp only [Bool.and_eq_true] at hm
    refine PS.weak (ps_while cx.own (goE c _ _ _ _ hm.1 cx.toCtx tk).2 (gb _ _ _ _ hm.2 cx tk)) fun D σ H ⟨r, m, Q, Xd, re, rel, h, q, xl⟩ => ?_
    obtain ⟨k, h⟩ := (show ∃ k, whileW (testW (sgh t n) c Xd) (fun r2 m2 nx => wpSs (sgh t n) Xd b r2 m2 { nx := nx, rt := Q.rt, bk := Q.nx, ct := nx }) Q.nx k r m from h)
    refine ⟨fun i σ2 H2 => ∃ r2 m2, REnv L.F H2 r2 σ2 ∧ Rel L m2 H2 ∧ Kp H H2 ∧ whileW (testW (sgh t n) c Xd) (fun r2 m2 nx => wpSs (sgh t n) Xd b r2 m2 { nx := nx, rt := Q.rt, bk := Q.nx, ct := nx }) Q.nx i r2 m2,
      ⟨k, r, m, re, rel, .refl H, h⟩, ?_⟩
    rintro i σ2 H2 ⟨r2, m2, re2, rel2, k2, h2⟩
    cases i with
    | zero => exact h2.elim
    | succ i =>
      refine ⟨r2, m2, _,
        Xd, re2, rel2, h2, fun x m3 v H3 ⟨k, hk, h3⟩ rv rel3 k3 => ⟨k, hk, ?_⟩, xl.mono k2⟩
      cases k with
      | true =>
        refine ⟨fun σ4 H4 => ∃ r2 m2, REnv L.F H4 r2 σ4 ∧ Rel L m2 H4 ∧ Kp H H4 ∧ whileW (testW (sgh t n) c Xd) (fun r2 m2 nx => wpSs (sgh t n) Xd b r2 m2 { nx := nx, rt := Q.rt, bk := Q.nx, ct := nx }) Q.nx i r2 m2,
          fun σ4 H4 h4 => ⟨i, Nat.lt_succ_self i, h4⟩, r2, m3, _, Xd, re2.mono k3, rel3, h3, ?_, xl.mono (k2.trans k3)⟩
        refine ⟨fun r4 m4 σ4 H4 h4 re4 rel4 k4 => ?_, q.2.1.mono (k2.trans k3), fun r4 m4 σ4 H4 h4 re4 rel4 k4 => q.1 r4 m4 σ4 H4 h4 re4 rel4 (k2.trans (k3.trans k4)), fun r4 m4 σ4 H4 h4 re4 rel4 k4 => ?_⟩
        · exact ⟨r4, m4, re4, rel4, k2.trans (k3.trans k4), h4⟩
        · exact ⟨r4, m4, re4, rel4, k2.trans (k3.trans k4), h4⟩
      | false => exact q.1 r2 m3 σ2 H3 h3 (re2.mono k3) rel3 (k2.trans k3)
  · cases hm
theorem s_fr {tg : T} {it : I} {b : Ss} (gb : GoSs exc L t n C N b) : GoS exc L t n C N (.fr tg it b) := fun sc X W ps hm cx tk => by
  simp only [mS] at hm
  split at hm
  · simp only [Bool.and_eq_true] at hm
    obtain ⟨⟨⟨⟨hc0, h1⟩, h2⟩, h3⟩, h4⟩ := hm
    have hh := cx.cold hc0
    refine PS.weak (ps_for cx.own (cx.calm hh) (goI it _ _ _ _ _ h3 cx.toCtx tk) (own_t (g := sgh t n) (cx.ownX hh) tg _ h2) (gb _ _ _ _ h4 cx tk) (fun x => fold_ok h1 _ x)) fun D σ H ⟨r, m, Q, Xd, re, rel, h, q, xl⟩ => ?_
    refine ⟨r, m, _, Xd, re, rel, (show wpI (sgh t n) it Xd r m fun xs st m1 =>
      loopW st (fun x r2 m2 nx => wpT (sgh t n) tg x Xd r2 m2 fun r3 m3 => wpSs (sgh t n) Xd b r3 m3 { nx := nx, rt := Q.rt, bk := Q.nx, ct := nx }) Q.nx xs r m1 from h), fun xs st m1 J H1 hp ito rel1 k1 => ?_, xl⟩
    refine ⟨fun i μ σ2 H2 => μ = xs.length - i ∧ i ≤ xs.length ∧ ∃ r2 m2, REnv L.F H2 r2 σ2 ∧ Rel L m2 H2 ∧ Kp H1 H2 ∧
      loopW st (fun x r2 m2 nx => wpT (sgh t n) tg x Xd r2 m2 fun r3 m3 => wpSs (sgh t n) Xd b r3 m3 { nx := nx, rt := Q.rt, bk := Q.nx, ct := nx }) Q.nx (xs.drop i) r2 m2,
      ⟨xs.length, by omega, Nat.zero_le _, r, m1, re.mono k1, rel1, .refl H1, by rw [List.drop_zero]; exact hp⟩, ?_⟩
    rintro i μ σ2 H2 ⟨rfl, hi, r2, m2, re2, rel2, k2, hc⟩
    by_cases hlt : i < xs.length
    · rw [List.drop_eq_getElem_cons hlt] at hc
      obtain ⟨hst, hc⟩ := hc
      obtain ⟨g1, g2⟩ := ito.go i xs[i] m2 H2 (by simp [hlt]) rel2 hst k2
      refine .inr ⟨g1, fun σ3 H3 => ∃ μ', μ' = xs.length - (i + 1) ∧ i + 1 ≤ xs.length ∧ ∃ r2 m2, REnv L.F H3 r2 σ3 ∧ Rel L m2 H3 ∧ Kp H1 H3 ∧
        loopW st (fun x r2 m2 nx => wpT (sgh t n) tg x Xd r2 m2 fun r3 m3 => wpSs (sgh t n) Xd b r3 m3 { nx := nx, rt := Q.rt, bk := Q.nx, ct := nx }) Q.nx (xs.drop (i + 1)) r2 m2,
        fun σ3 H3 ⟨μ', e1, e2, e3⟩ => ⟨μ', by omega, e1, e2, e3⟩, fun x H3 hy => ?_⟩
      obtain ⟨rx, rel3, k3⟩ := g2 x H3 hy
      refine ⟨xs[i], r2, m2, Xd, _, re2.mono k3, rel3, rx, hc, fun r4 m4 σ4 H4 hq re4 rel4 k4 _ => ⟨r4, m4, _, Xd, re4, rel4, hq, ?_, xl.mono (k1.trans (k2.trans (k3.trans k4)))⟩⟩
      refine ⟨fun r5 m5 σ5 H5 h5 re5 rel5 k5 => ?_, q.2.1.mono (k1.trans (k2.trans (k3.trans k4))), fun r5 m5 σ5 H5 h5 re5 rel5 k5 => q.1 r5 m5 σ5 H5 h5 re5 rel5 (k1.trans (k2.trans (k3.trans (k4.trans k5)))), fun r5 m5 σ5 H5 h5 re5 rel5 k5 => ?_⟩
      · exact ⟨_, rfl, hlt, r5, m5, re5, rel5, k2.trans (k3.trans (k4.trans k5)), h5⟩
      · exact ⟨_, rfl, hlt, r5, m5, re5, rel5, k2.trans (k3.trans (k4.trans k5)), h5⟩
    · have e : i = xs.length := by omega
      subst e
      rw [List.drop_length] at hc
      exact .inl ⟨ito.stop m2 H2 rel2 hc.1 k2, q.1 r2 m2 σ2 H2 hc.2 re2 rel2 (k1.trans k2)⟩
  · cases hm
theorem REnv.monoW {F : PySem.W.Frag} {H H2 : Hp} {r : Mn.Env} {σ : L2.St} (h : REnv F H r σ) (k : Kw H H2) : REnv F H2 r σ :=
  ⟨h.1, fun j d e => by
    obtain ⟨w, h1, h2⟩ := h.2 j d e
    exact ⟨w, h1, h2.monoW k⟩⟩
end
end Mn
end

section
set_option Elab.async false
set_option linter.all false
set_option maxRecDepth 100000
set_option maxHeartbeats 4000000
namespace Mn
open PySem PySem.Spec PyProof.Rows L2 RZ
section
variable {exc : Nat → Option Addr} {L : Lk} {t : Tab} {n : Dn} {C : Nm} {N : List Str} {sc : Scope} {X : Cx} {W : WX}
theorem swL {elt : Expr} {gs : List Comprehension} {scope : Scope} {pos px : Pos} {x : Str} {l : Nat} {env : PySem.Env} (hk : env.scope.kind = .function) : swapsWith (.ListComp elt gs scope pos) (some (.Name x px)) l env = pure (swC env.scope x px (.ListComp elt gs scope pos)) := by
  have hb : env.blockKind = .function := by unfold Env.blockKind; rw [hk]; rfl
  unfold swapsWith swC lo_
  simp only [hb, Expr.pos]
  show pure _ = pure _
  congr 1
  have e : (env.kindOf x == some .local) = (match env.scope.names.lookup x with | some .local => true | _ => false) := by
    show (env.scope.names.lookup x == some .local) = _
    cases env.scope.names.lookup x with
    | none => rfl
    | some k => cases k <;> rfl
  rw [e]
  rfl
theorem tpS_none {o i : Expr} {p : Pos} {e : Expr} {env : PySem.Env} : swappedStores [.Subscript o i p] e env = pure none := by cases e <;> rfl
theorem tpT_none {es : List Expr} {k : Nat} {p : Pos} {e : Expr} {env : PySem.Env} (h : isTup e = false) : swappedStores [.Tuple es k p] e env = pure none := by cases e <;> first | rfl | cases h
theorem lo_no {sc : Scope} {x : Str} (h : lo_ sc x = false) : (sc.names.lookup x == some .local) = false := by
  unfold lo_ at h
  split at h
  · cases h
  · rename_i h2
    cases e : sc.names.lookup x with
    | none => rfl
    | some k => cases k <;> first | rfl | exact absurd e h2
theorem cel_none {pt pe : Expr} {env : PySem.Env} (h : mCel env.scope pt pe = true) : swappedStores [pt] pe env = pure none := by
  unfold mCel at h
  split at h
  · rename_i x px y py k1 p1 a b k2 p2
    have hx : ∀ z, env.kindOf z = env.scope.names.lookup z := fun _ => rfl
    unfold swappedStores
    simp only [List.length_cons, List.length_nil, List.filterMap_cons, List.filterMap_nil, hx]
    rw [Bool.or_eq_true, Bool.not_eq_true', Bool.not_eq_true'] at h
    rcases h with h | h
    · rw [lo_no h]
      simp only [Bool.false_and, Bool.false_eq_true, if_false]
      split <;> first | rfl | skip
      split <;> first | rfl | skip
      split <;> first | rfl | skip
      all_goals simp
    · rw [lo_no h]
      simp only [Bool.false_and, Bool.false_eq_true, if_false]
      split <;> first | rfl | skip
      split <;> first | rfl | skip
      split <;> first | rfl | skip
      all_goals simp
  · cases h
theorem swN {es : List Expr} {k : Nat} {p : Pos} {e : Expr} {env : PySem.Env} (h : isTup e = false ∨ mCel env.scope (.Tuple es k p) e = true) : swappedStores [.Tuple es k p] e env = pure none := by
  rcases h with h | h
  · exact tpT_none h
  · exact cel_none h
theorem kind_fn {b : Bool} {k : ScopeKind} (h : (match k with | .function => true | _ => false) = true) : k = .function := by cases k <;> first | rfl | cases h
theorem lo_eq {sc : Scope} {x : Str} (h : lo_ sc x = true) : sc.names.lookup x = some .local := by
  unfold lo_ at h
  split at h
  · assumption
  · cases h
theorem any_no {f : Expr → Bool} (hf : ∀ e, nostar e = true → f e = false) {a b : Expr} (ha : nostar a = true) (hb : nostar b = true) : [a, b].any f = false := by simp [List.any_cons, hf a ha, hf b hb]
theorem par_some {x y : Str} {px py pt pt2 : Pos} {a b : Expr} {k1 k2 : Nat} {env : PySem.Env} (h : mPar env.scope (.Tuple [.Name x px, .Name y py] k1 pt) (.Tuple [a, b] k2 pt2) = true) :
    swappedStores [.Tuple [.Name x px, .Name y py] k1 pt] (.Tuple [a, b] k2 pt2) env = pure (some [x, y]) ∧ x ≠ y ∧ env.scope.names.lookup x = some .local ∧ env.scope.names.lookup y = some .local := by
  simp only [mPar, Bool.and_eq_true, Bool.not_eq_true'] at h
  obtain ⟨⟨⟨⟨⟨⟨⟨⟨h1, h2⟩, h3⟩, h4⟩, h5⟩, h6⟩, h7⟩, h8⟩, h9⟩ := h
  have hk := kind_fn (b := true) h9
  have hb : env.blockKind = .function := by unfold Env.blockKind; rw [hk]; rfl
  have e1 := lo_eq h3
  have e2 := lo_eq h4
  have k1 : env.kindOf x = some .local := e1
  have k2 : env.kindOf y = some .local := e2
  have hxy : x ≠ y := by simpa using h2
  refine ⟨?_, hxy, e1, e2⟩
  have s1 : ([a, b].any fun | .Starred .. => true | _ => false) = false := any_no (fun e h => by cases e <;> first | rfl | cases h) h5 h6
  have h1 : px.line = py.line := by simpa using h1
  have f1 : [a, b].all (foldedForSure 8) = false := by simpa using h7
  have f2 : [a, b].all (constantsAlone 8) = false := by simpa using h8
  have hyx : (y == x) = false := by simpa using Ne.symm hxy
  unfold swappedStores
  simp only [List.length_cons, List.length_nil, hb, List.head?_cons, Option.map_some, Option.getD_some, Expr.pos, List.filterMap_cons, List.filterMap_nil, k1, k2, h1, f1, f2, s1]
  simp [List.eraseDups_cons, hyx, hxy, Ne.symm hxy]
  intro z
  exfalso
  rcases z with z | z
  · cases a <;> first | (cases z; done) | (cases h5; done)
  · cases b <;> first | (cases z; done) | (cases h6; done)
theorem asg_name {i : Nat} {x : Str} {px pos : Pos} {e : E} {pe : Expr} (cx : SCtx exc L t n C N sc X) (tk : Tk (SX exc) X W) (hi : N[i]? = some x) (hx : Mn.loc sc x = true) (hc : nocomp pe = true ∨ (isLc pe = true ∧ sc.kind = .function)) (hm : mE C N e sc pe = true) :
    PS X (.Assign [.Name x px] pe pos) (tAsg (LE exc L W (wpE (sgh t n) e)) (gName i)) := by
  have hN : X.N.Nodup := by rw [cx.nn]; exact cx.nd
  have hi2 : X.N[i]? = some x := by rw [cx.nn]; exact hi
  rcases hc with hc | ⟨hc, hk⟩
  · exact ps_set hN hi2 (cx.loc hx) (goE e _ _ _ _ hm cx.toCtx tk).1 (swap_ok hc _ _ _) (.inl (cx.fn x))
  · cases pe with
    | ListComp elt gs scope cpos =>
      have hk2 : X.env.scope.kind = .function := by rw [cx.sc]; exact hk
      cases hs : swC X.env.scope x px (.ListComp elt gs scope cpos) with
      | false => exact ps_set hN hi2 (cx.loc hx) (goE e _ _ _ _ hm cx.toCtx tk).1 (by rw [swL hk2, hs]) (.inl (cx.fn x))
      | true =>
        have hl : X.env.scope.names.lookup x = some .local := by
          unfold swC at hs
          simp only [Bool.and_eq_true] at hs
          exact lo_eq hs.1.1
        cases e with
        | comp e1 tg it cond own =>
          have hh := cx.cold (comp_cold hm)
          have gc : ∀ c, cond = .yes c → GoE exc L t n C N c := fun c _ => goE c
          obtain ⟨pelt, ptg, pit, pifs, scope2, pos2, wi, gg, tt, te, he, p1, p2, p3, p4, p5, p6, p7⟩ := lc_parts own (goE e1) (goI it) gc hm cx.toCtx tk
          cases he
          exact PS.weak (ps_setLc (cx.calm hh) hN hi2 hl (by rw [swL hk2, hs]) p1 p2 p3 p4 p5 p6) fun D σ H q => p7 _ _ _ q
        | compD e1 tg k cond own =>
          have hh := cx.cold (compD_cold hm)
          have gc : ∀ c, cond = .yes c → GoE exc L t n C N c := fun c _ => goE c
          obtain ⟨pelt, ptg, pit, pifs, scope2, pos2, wi, gg, tt, te, he, p1, p2, p3, p4, p5, p6, p7⟩ := lcD_parts own (goE e1) (goE k) gc hm cx.toCtx tk
          cases he
          exact PS.weak (ps_lock (ps_setLc (cx.calm hh) hN hi2 hl (by rw [swL hk2, hs]) p1 p2 p3 p4 p5 p6)) fun D σ H q => p7 _ _ _ q
        | _ => simp [mE] at hm
    | _ => cases hc
theorem fput_ok {F : PySem.W.Frag} {H : Hp} {nm : Nat → Str} {ok : Nat → Bool} (inj : ∀ a b, ok a = true → ok b = true → nm a = nm b → a = b) {f : Nat} (hf : ok f = true) {d : D} {v : V} (rd : Rp F H d v) : ∀ {fs : List (Nat × D)} {gs : List (Str × V)}, KvR F H nm fs gs → (fs.all fun p => ok p.1) = true →
    KvR F H nm (fput fs f d) (putF (nm f) v gs)
  | _, _, .nil, _ => .cons ⟨rfl, rd⟩ .nil
  | (a, d2) :: fs, (b, v2) :: gs, .cons ⟨h1, h2⟩ r, hk => by
    have h1 : b = nm a := h1
    rw [List.all_cons, Bool.and_eq_true] at hk
    by_cases hz : a = f
    · subst hz
      subst h1
      show KvR F H nm (if a = a then _ else _) (if nm a = nm a then _ else _)
      rw [if_pos rfl, if_pos rfl]
      exact .cons ⟨rfl, rd⟩ r
    · have hne : b ≠ nm f := by rw [h1]; exact fun z => hz (inj _ _ hk.1 hf z)
      show KvR F H nm (if a = f then _ else _) (if b = nm f then _ else _)
      rw [if_neg hz, if_neg hne]
      exact .cons ⟨h1, h2⟩ (fput_ok inj hf rd r hk.2)
theorem fput_all {p : Nat → Bool} {f : Nat} {d : D} (hf : p f = true) : ∀ {fs : List (Nat × D)}, (fs.all fun q => p q.1) = true → ((fput fs f d).all fun q => p q.1) = true
  | [], _ => by simp [fput, hf]
  | (a, v) :: fs, h => by
    rw [List.all_cons, Bool.and_eq_true] at h
    unfold fput
    split
    · rename_i z; simp only [List.all_cons, Bool.and_eq_true]; exact ⟨h.1, h.2⟩
    · simp only [List.all_cons, Bool.and_eq_true]; exact ⟨h.1, fput_all hf h.2⟩
/-- a field put -/
theorem fld_put (cx : Ctx exc L t n C N sc X) {m : Hm} {H : Hp} {a : Addr} {c f : Nat} {fs : List (Nat × D)} {d : D} {v : V} (rel : Rel L m H) (e : m a = some (.ins c fs)) (ho : C.ok f = true) (hf : t.fld c f = true) (rd : Rp L.F H d v) :
    ∃ Ca dx gs, H a = some (.ins Ca dx gs) ∧ Cls X.K Ca ∧ NoAttr X.K Ca (C.nm f) ∧ gs.length = fs.length ∧ Kp H (upd H a (.ins Ca dx (putF (C.nm f) v gs))) ∧ Rel L (up m a (.ins c (fput fs f d))) (upd H a (.ins Ca dx (putF (C.nm f) v gs))) := by
  obtain ⟨Ca, dx, gs, k1, k2, k3, k4⟩ := rel _ _ e
  have ho2 : L.ok f = true := by rw [cx.sta.okL]; exact ho
  have kp : Kp H (upd H a (.ins Ca dx (putF (C.nm f) v gs))) := .over k2 trivial
  refine ⟨Ca, dx, gs, k2, cx.sta.cls c Ca k1, cx.sta.att c Ca f k1 hf, (Paired.length k3).symm, kp, rel.put kp ⟨Ca, dx, _, k1, upd_same, ?_, ?_⟩⟩
  · have := fput_ok (ok := L.ok) (by rw [cx.sta.okL, cx.sta.nm]; exact cx.sta.inj) ho2 (rd.mono kp) (k3.mono kp) (all_l k4)
    rw [cx.sta.nm] at this ⊢
    exact this
  · exact fput_all (p := fun q => L.ok q && L.fld c q) (by rw [ho2, cx.sta.fldL, hf]; rfl) k4
theorem mTo_tup {own : List Nat} {ts : Ts} {pt : Expr} (h : mTo N sc own (.tp ts) pt = true) : ∃ es k p, pt = .Tuple es k p := by
  simp only [mTo] at h
  split at h
  · exact ⟨_, _, _, rfl⟩
  · cases h
theorem s_asg (tg : T) (e : E) : GoS exc L t n C N (.asg tg e) := fun sc X W ps hm cx tk => by
  simp only [mS] at hm
  split at hm
  · rename_i pt pe pos
    cases tg with
    | nm i =>
      simp only [mAsg] at hm
      split at hm
      · simp only [Bool.and_eq_true, decide_eq_true_eq, Bool.or_eq_true] at hm
        obtain ⟨⟨⟨h1, h2⟩, h3⟩, h4⟩ := hm
        refine PS.weak (asg_name cx tk h1 h2 (h3.imp id fun z => ⟨z.1, kind_fn (b := true) z.2⟩) h4) fun D σ H q => ?_
        exact q.bd (k := fun Xd r Q d m1 => Q.nx (r.set i (some d)) m1) (fun _ _ _ _ h => h) fun Xd r Q x m v H1 re rel xl q h rv => q.1 _ m _ H1 h (re.set i rv) rel (.refl H1)
      · cases hm
    | tp ts =>
      simp only [mAsg, Bool.or_eq_true, Bool.and_eq_true] at hm
      obtain ⟨hc0, hm⟩ := hm
      have hh := cx.cold hc0
      rcases hm with (⟨⟨h1, h2⟩, h3⟩ | ⟨⟨h1, h2⟩, h3⟩) | ⟨⟨h1, h2⟩, h3⟩
      · obtain ⟨es, k, p, rfl⟩ := mTo_tup h1
        have h2 : isTup pe = false ∨ mCel X.env.scope (.Tuple es k p) pe = true := by
          rw [cx.sc]
          simpa using h2
        refine PS.weak (ps_asg (goE e _ _ _ _ h3 cx.toCtx tk).1 (own_t (g := sgh t n) (cx.ownX hh) (.tp ts) _ h1) (swap_tup (e := pe) es k p pos.line X.env) (swN h2) rfl) fun D σ H q => ?_
        exact q.bd (k := fun Xd r Q d m1 => wpT (sgh t n) (.tp ts) d Xd r m1 Q.nx) (fun _ _ _ _ h => h) fun Xd r Q x m v H1 re rel xl q h rv =>
          ⟨x, r, m, Xd, Q.nx, re, rel, rv, h, fun r2 m2 σ2 H2 hp re2 rel2 k2 _ => q.1 r2 m2 σ2 H2 hp re2 rel2 k2⟩
      · have hp := h2
        unfold mPar at h2
        split at h2
        · rename_i x px y py k1 pt1 a b k2 pt2
          have hp2 : mPar X.env.scope (.Tuple [.Name x px, .Name y py] k1 pt1) (.Tuple [a, b] k2 pt2) = true := by rw [cx.sc]; exact hp
          obtain ⟨w1, w2, w3, w4⟩ := par_some hp2
          cases e with
          | tup es =>
            simp only [mE, Bool.and_eq_true] at h3
            have hes := h3.2
            have hA := goEs es _ _ _ _ hes cx.toCtx tk
            simp only [mTo, Bool.and_eq_true] at h1
            cases ts with
            | nil => simp [mTos] at h1
            | cons t1 ts =>
              cases ts with
              | nil => simp [mTos] at h1
              | cons t2 ts =>
                cases ts with
                | cons _ _ => simp [mTos] at h1
                | nil =>
                  simp only [mTos, Bool.and_eq_true] at h1
                  obtain ⟨⟨g1, g2, _⟩, _⟩ := h1
                  cases t1 with
                  | nm i =>
                    cases t2 with
                    | nm j =>
                      simp only [mTo, Bool.and_eq_true, decide_eq_true_eq] at g1 g2
                      have hij : i ≠ j := fun z => by
                        subst z
                        have := g1.1.1.symm.trans g2.1.1
                        cases this
                        exact w2 rfl
                      refine PS.weak (ps_par (cx.calm hh) (by rw [cx.nn]; exact cx.nd) (by rw [cx.nn]; exact g1.1.1) (by rw [cx.nn]; exact g2.1.1) hij w3 w4 hA.pa w1 (swap_tup (e := .Tuple [a, b] k2 pt2) [.Name x px, .Name y py] k1 pt1 pos.line X.env)) fun D σ H ⟨r, m, Q, Xd, re, rel, h, q, xl⟩ => ?_
                      refine ⟨r, m, _, Xd, re, rel, (show wpEs (sgh t n) es Xd r m fun ds m1 => wpT (sgh t n) (.tp (.cons (.nm i) (.cons (.nm j) .nil))) (.tup ds) Xd r m1 Q.nx from h), fun xs m2 vs H2 hl hp rs rel2 k2 => ?_, xl⟩
                      cases rs with
                      | nil => exact hp.2.elim
                      | cons r1 rs => cases rs with
                        | nil => exact hp.2.elim
                        | cons r2 rs => cases rs with
                          | cons _ _ => exact hp.2.elim
                          | nil => exact ⟨_, _, rfl, q.1 _ m2 _ H2 hp.2 (((re.mono k2).set i r1).set j r2) rel2 k2⟩
                    | _ => simp [mTo] at g2
                  | _ => simp [mTo] at g1
          | _ => simp [mE] at h3
        · cases h2
      · have h2 : isTup pe = false := by simpa using h2
        unfold mSub at h1
        split at h1
        · rename_i o i j po pi spos y py k p
          simp only [Bool.and_eq_true, decide_eq_true_eq] at h1
          obtain ⟨⟨⟨⟨g1, g2⟩, g3⟩, g4⟩, g5⟩ := h1
          have ox := cx.ownX (L := L) (N := N) hh
          have pn := pg_name (i := j) (x := y) (pos := py) (by rw [ox.nn]; exact ox.nd) (by rw [ox.nn]; exact g4) (ox.loc _ g5).1 (ox.loc _ g5).2
          have ps := pg_sub (goE o _ _ _ _ g2 cx.toCtx tk).1 (goE i _ _ _ _ g3 cx.toCtx tk).1 (setS cx.k cx.sta.w cx.un) (pos := spos) (fun v => by cases pi <;> first | rfl | cases g1)
          have pu := pg_unp (pos := p) (k := k) (by exact ox.calm) (pgs_cons ps (pgs_cons pn pgs_nil (by rfl)) (by rfl)) (asgs_ok (es := [.Subscript po pi spos, .Name y py]) rfl _).1 (asgs_ok (es := [.Subscript po pi spos, .Name y py]) rfl _).2
          refine PS.weak (ps_asg (goE e _ _ _ _ h3 cx.toCtx tk).1 pu (swap_tup (e := pe) [.Subscript po pi spos, .Name y py] k p pos.line X.env) (tpT_none h2) rfl) fun D σ H q => ?_
          refine q.bd (k := fun Xd r Q d m1 => wpT (sgh t n) (.tp (.cons (.sb o i) (.cons (.nm j) .nil))) d Xd r m1 Q.nx) (fun _ _ _ _ h => h) fun Xd r Q d m v H1 re rel xl q h rv => ?_
          cases rv with
          | @tup ds a vs sa ra =>
            have hw : ds.length = 2 ∧ wpTs (sgh t n) (.cons (.sb o i) (.cons (.nm j) .nil)) ds Xd r m Q.nx := h
            refine ⟨a, vs, rfl, .inl (by rw [ox.k]; exact sa.sq), by rw [← ra.length]; exact hw.1, ?_⟩
            obtain ⟨hl, hw⟩ := hw
            cases ra with
            | nil => cases hl
            | @cons d1 v1 ds vs r1 rr =>
              cases rr with
              | nil => cases hl
              | @cons d2 v2 ds2 vs2 r2 rr2 =>
                cases rr2 with
                | cons _ _ => simp at hl
                | nil =>
                  have hw : wpE (sgh t n) o Xd r m (fun x m1 => wpE (sgh t n) i Xd r m1 fun y m2 => setW x y d1 m2 fun m3 => Q.nx (r.set j (some d2)) m3) := hw
                  exact ⟨v1, [v2], rfl, .go re rel xl hw fun x m2 u H2 hp ru rel2 k2 => .go (re.mono k2) rel2 (xl.mono k2) hp fun y m3 w H3 hp rw_ rel3 k3 =>
                    set_ok hp (ru.mono k3) rw_ (r1.mono (k2.trans k3)) rel3 fun m4 H4 h4 rel4 k4 => ⟨v2, [], rfl, rfl, q.1 _ m4 _ H4 h4 ((re.mono (k2.trans (k3.trans k4))).set j (r2.mono (k2.trans (k3.trans k4)))) rel4 (k2.trans (k3.trans k4))⟩⟩
          | ref a =>
            have hw : (match m a with
              | some (.lst ds) => ds.length = 2 ∧ wpTs (sgh t n) (.cons (.sb o i) (.cons (.nm j) .nil)) ds Xd r m Q.nx
              | _ => False) := h
            cases e0 : m a with
            | none => rw [e0] at hw; exact hw.elim
            | some o2 => cases o2 with
              | lst ds =>
                rw [e0] at hw
                obtain ⟨vs, hv, ra⟩ := rel _ _ e0
                refine ⟨a, vs, rfl, .inr (SqL.of hv), by rw [← ra.length]; exact hw.1, ?_⟩
                obtain ⟨hl, hw⟩ := hw
                cases ra with
                | nil => cases hl
                | @cons d1 v1 ds vs r1 rr =>
                  cases rr with
                  | nil => cases hl
                  | @cons d2 v2 ds2 vs2 r2 rr2 =>
                    cases rr2 with
                    | cons _ _ => simp at hl
                    | nil =>
                      have hw : wpE (sgh t n) o Xd r m (fun x m1 => wpE (sgh t n) i Xd r m1 fun y m2 => setW x y d1 m2 fun m3 => Q.nx (r.set j (some d2)) m3) := hw
                      exact ⟨v1, [v2], rfl, .go re rel xl hw fun x m2 u H2 hp ru rel2 k2 => .go (re.mono k2) rel2 (xl.mono k2) hp fun y m3 w H3 hp rw_ rel3 k3 =>
                        set_ok hp (ru.mono k3) rw_ (r1.mono (k2.trans k3)) rel3 fun m4 H4 h4 rel4 k4 => ⟨v2, [], rfl, rfl, q.1 _ m4 _ H4 h4 ((re.mono (k2.trans (k3.trans k4))).set j (r2.mono (k2.trans (k3.trans k4)))) rel4 (k2.trans (k3.trans k4))⟩⟩
              | _ => rw [e0] at hw; exact hw.elim
          | _ => exact h.elim
        · cases h1
    | at_ f o =>
      simp only [mAsg] at hm
      split at hm
      · simp only [Bool.and_eq_true, decide_eq_true_eq] at hm
        obtain ⟨⟨⟨h1, h2⟩, h3⟩, h4⟩ := hm
        refine PS.weak (ps_fld (goE o _ _ _ _ h3 cx.toCtx tk).1 (goE e _ _ _ _ h4 cx.toCtx tk).1 (swap_oth _ _ _ _ _)) fun D σ H q => ?_
        refine q.bd (k := fun Xd r Q d m1 => wpE (sgh t n) o Xd r m1 fun x m2 => match x with
          | .ref a => ∃ c fs, m2 a = some (.ins c fs) ∧ (sgh t n).fld c f = true ∧ fs.length < 1000 ∧ Q.nx r (up m2 a (.ins c (fput fs f d)))
          | _ => False) (fun _ _ _ _ h => h) fun Xd r Q d m v H1 re rel xl q h rv => .go re rel xl h fun x m2 u H2 hp ru rel2 k2 => ?_
        cases ru with
        | ref a =>
          obtain ⟨c, fs, e1, e2, e3, hp⟩ := hp
          obtain ⟨Ca, dx, gs, g1, g2, g3, g4, g5, g6⟩ := fld_put cx.toCtx rel2 e1 h2 e2 (rv.mono k2)
          rw [h1] at g3 g5 g6
          exact ⟨a, Ca, dx, gs, rfl, g1, g2, g3, by rw [g4]; exact e3, q.1 r _ σ _ hp (re.mono (k2.trans g5)) g6 (k2.trans g5)⟩
        | _ => exact hp.elim
      · cases hm
    | sb o i =>
      simp only [mAsg] at hm
      split at hm
      · rename_i po pi spos
        simp only [Bool.and_eq_true] at hm
        obtain ⟨⟨⟨h1, h2⟩, h3⟩, h4⟩ := hm
        refine PS.weak (ps_asg (goE e _ _ _ _ h4 cx.toCtx tk).1 (pg_sub (goE o _ _ _ _ h2 cx.toCtx tk).1 (goE i _ _ _ _ h3 cx.toCtx tk).1 (setS cx.k cx.sta.w cx.un) (pos := spos) (fun v => by cases pi <;> first | rfl | cases h1)) (swap_sub (e := pe) po pi spos pos.line X.env) tpS_none rfl) fun D σ H q => ?_
        refine q.bd (k := fun Xd r Q d m1 => wpE (sgh t n) o Xd r m1 fun x m2 => wpE (sgh t n) i Xd r m2 fun y m3 => setW x y d m3 fun m4 => Q.nx r m4) (fun _ _ _ _ h => h) fun Xd r Q d m v H1 re rel xl q h rv =>
          .go re rel xl h fun x m2 u H2 hp ru rel2 k2 => .go (re.mono k2) rel2 (xl.mono k2) hp fun y m3 w H3 hp rw_ rel3 k3 =>
            set_ok hp (ru.mono k3) rw_ (rv.mono (k2.trans k3)) rel3 fun m4 H4 h4 rel4 k4 => q.1 r m4 σ H4 h4 (re.mono (k2.trans (k3.trans k4))) rel4 (k2.trans (k3.trans k4))
      · cases hm
  · cases hm
def augR : Bop → V → V → Hp → VK → Prop
  | .add => ipI fun i j => i + j
  | .sub => ipI fun i j => i - j
  | _ => fun _ _ _ _ => False
theorem augS : ∀ op : Bop, PIp X (bopO op) (augR op)
  | .add => ip_add
  | .sub => ip_sub
  | .mul => fun _ _ _ _ _ _ _ _ _ _ _ _ h => h.elim
  | .fdiv => fun _ _ _ _ _ _ _ _ _ _ _ _ h => h.elim
  | .mod => fun _ _ _ _ _ _ _ _ _ _ _ _ h => h.elim
  | .pow => fun _ _ _ _ _ _ _ _ _ _ _ _ h => h.elim
theorem aug_val {op : Bop} {x y : D} {P : D → Prop} {v u : V} {H : Hp} {Q : VK} (h : augW op x y P) (rx : Rp L.F H x v) (ry : Rp L.F H y u) (q : ∀ z w, P z → Rp L.F H z w → Q w H) : augR op v u H Q := by
  cases op with
  | add => cases rx with
    | int i => cases ry with
      | int j => exact ⟨i, j, rfl, rfl, q _ _ h (.int _)⟩
      | _ => exact h.elim
    | _ => exact h.elim
  | sub => cases rx with
    | int i => cases ry with
      | int j => exact ⟨i, j, rfl, rfl, q _ _ h (.int _)⟩
      | _ => exact h.elim
    | _ => exact h.elim
  | _ => exact h.elim
theorem get_dict (hu : X.A.units + 1 < cLine) : PGet X rIxD := by
  intro pins s σ H o i ov iv Q J ro ri h
  obtain ⟨a, w, rfl, g, q⟩ := h
  obtain rfl : ov = Value.ref a := ro
  exact d_getItem hu J g ri fun w2 s2 J2 r2 => ⟨w, H, J2, r2, q⟩
theorem get_dT (hk : X.K = L.F) (hw : X.w = L.w) (hu : X.A.units + 65 < cLine) : PGet X (rIxT L) := by
  intro pins s σ H o i ov iv Q J ro ri h
  obtain ⟨a, kvs, xs, ks, w, rfl, D, rk, hs, g, q⟩ := h
  obtain rfl : ov = Value.ref a := ro
  obtain ⟨b, rfl⟩ := rk.tup_ref
  obtain rfl : iv = Value.ref b := ri
  exact dt_getItem (by omega) J (D.now hk hw J) (keyT_is hk J hs rk) g fun w2 s2 J2 r2 => ⟨w, H, J2, r2, q⟩
theorem get_dict2 (hk : X.K = L.F) (hw : X.w = L.w) (hu : X.A.units + 65 < cLine) : PGet X (fun x y H Q => rIxD x y H Q ∨ rIxT L x y H Q) := by
  intro pins s σ H o i ov iv Q J ro ri h
  rcases h with h | h
  · exact get_dict (by omega) pins s σ H o i ov iv Q J ro ri h
  · exact get_dT hk hw hu pins s σ H o i ov iv Q J ro ri h
theorem s_aug (tg : T) (op : Bop) (e : E) : GoS exc L t n C N (.aug tg op e) := fun sc X W ps hm cx tk => by
  simp only [mS] at hm
  split at hm
  · rename_i pt o1 pe pos
    simp only [Bool.and_eq_true, decide_eq_true_eq] at hm
    obtain ⟨⟨h1, h2⟩, h3⟩ := hm
    subst h1
    have he := (goE e _ _ _ _ h2 cx.toCtx tk).1
    cases tg with
    | nm i =>
      simp only at h3
      split at h3
      · simp only [Bool.and_eq_true, decide_eq_true_eq] at h3
        refine PS.weak (ps_aug (i := i) (by rw [cx.nn]; exact cx.nd) (by rw [cx.nn]; exact h3.1) (cx.loc h3.2) he (augS op) (.inl (cx.fn _))) fun D σ H ⟨r, m, Q, Xd, re, rel, h, q, xl⟩ => ?_
        obtain ⟨x, hx, h⟩ := (show ∃ x, vget r i = some x ∧ wpE (sgh t n) e Xd r m fun y m1 => augW op x y fun z => Q.nx (r.set i (some z)) m1 from h)
        obtain ⟨v, hv, rv⟩ := re.2 _ _ hx
        exact ⟨v, hv, .go re rel xl h fun y m1 u H1 hp ru rel1 k1 => aug_val hp (rv.mono k1) ru fun z w hz rz => q.1 _ m1 _ H1 hz ((re.mono k1).set i rz) rel1 k1⟩
      · cases h3
    | at_ f o =>
      simp only at h3
      split at h3
      · simp only [Bool.and_eq_true, decide_eq_true_eq] at h3
        obtain ⟨⟨g1, g2⟩, g3⟩ := h3
        refine PS.weak (ps_fldaug (goE o _ _ _ _ g3 cx.toCtx tk).1 he (augS op)) fun D σ H q => ?_
        refine q.bd (k := fun Xd r Q x m1 => match x with
          | .ref a => ∃ c fs d, m1 a = some (.ins c fs) ∧ fget fs f = some d ∧ wpE (sgh t n) e Xd r m1 fun y m2 => augW op d y fun z =>
              ∃ fs2, m2 a = some (.ins c fs2) ∧ fs2.length < 1000 ∧ Q.nx r (up m2 a (.ins c (fput fs2 f z)))
          | _ => False) (fun _ _ _ _ h => h) fun Xd r Q x m v H1 re rel xl q h rv => ?_
        cases rv with
        | ref a =>
          obtain ⟨c, fs, d, e1, e2, h⟩ := h
          obtain ⟨Ca, dx, gs, k1, k2, k3, k4⟩ := rel _ _ e1
          have ho : L.ok f = true := by rw [cx.sta.okL]; exact g2
          have hfl : t.fld c f = true := by rw [← cx.sta.fldL]; exact all_r k4 e2
          rcases fget_ok (ok := L.ok) (by rw [cx.sta.okL, cx.sta.nm]; exact cx.sta.inj) ho k3 (all_l k4) with ⟨d2, v2, z1, z2, z3⟩ | ⟨z1, z2⟩
          · rw [e2] at z1
            cases z1
            rw [cx.sta.nm, g1] at z2
            have hat := cx.sta.att c Ca f k1 hfl
            rw [g1] at hat
            refine ⟨a, Ca, dx, gs, v2, rfl, k2, cx.sta.cls c Ca k1, hat, z2, .go re rel xl h fun y m2 u H2 hp ru rel2 kp2 => aug_val hp (z3.mono kp2) ru fun z w hz rz => ?_⟩
            obtain ⟨fs2, e5, e6, hz⟩ := hz
            obtain ⟨Cb, dx2, gs2, y1, y2, y3, y4, y5, y6⟩ := fld_put cx.toCtx rel2 e5 g2 hfl rz
            obtain ⟨Cc, dx3, gs3, q1, q2, q3, q4⟩ := rel2 _ _ e5
            rw [y1] at q2
            cases q2
            rw [k1] at q1
            cases q1
            rw [g1] at y5 y6
            exact ⟨dx2, gs2, y1, by rw [y4]; exact e6, q.1 r _ σ _ hz (re.mono (kp2.trans y5)) y6 (kp2.trans y5)⟩
          · rw [e2] at z1; cases z1
        | _ => exact h.elim
      · cases h3
    | sb o i =>
      simp only at h3
      split at h3
      · simp only [Bool.and_eq_true] at h3
        obtain ⟨⟨g1, g2⟩, g3⟩ := h3
        refine PS.weak (ps_augS (goE o _ _ _ _ g2 cx.toCtx tk).1 (goE i _ _ _ _ g3 cx.toCtx tk).1 (get_dict2 cx.k cx.sta.w cx.un) he (augS op) (setS cx.k cx.sta.w cx.un) (fun ov iv new => aug_ok g1 _ _ _)) fun D σ H q => ?_
        refine q.bd (k := fun Xd r Q x m1 => wpE (sgh t n) i Xd r m1 fun y m2 => match x with
          | .ref a => ∃ d, dget m2 a y = some (some d) ∧ wpE (sgh t n) e Xd r m2 fun v m3 => augW op d v fun z => setW x y z m3 fun m4 => Q.nx r m4
          | _ => False) (fun _ _ _ _ h => h) fun Xd r Q x m v H1 re rel xl q h rv => .go re rel xl h fun y m2 u H2 hp ru rel2 k2 => ?_
        cases rv with
        | ref a =>
          obtain ⟨d, e1, hp⟩ := hp
          rcases dget_ok e1 ru rel2 with ⟨w, g, hw⟩ | ⟨ks, kvs, xs, f1, f2, f3, f4⟩
          · rcases hw with ⟨z, _⟩ | ⟨d2, z2, z3, z4, z5⟩
            · cases z
            · cases z3
              subst z4
              refine .inl ⟨a, z2, rfl, g, .go (re.mono k2) rel2 (xl.mono k2) hp fun v3 m3 w3 H3 hp rv3 rel3 k3 => aug_val hp (z5.mono k3) rv3 fun z w hz rz => ?_⟩
              exact set_ok hz (.ref a) (ru.mono k3) rz rel3 fun m4 H4 h4 rel4 k4 => q.1 r m4 σ H4 h4 (re.mono (k2.trans (k3.trans k4))) rel4 (k2.trans (k3.trans k4))
          · subst f1
            rcases lookT f2 f3.r with ⟨g1, _⟩ | ⟨d2, z2, g1, g2, z5⟩
            · rw [g1] at f4; cases f4
            · rw [g1] at f4
              cases f4
              refine .inr ⟨a, kvs, xs, ks, z2, rfl, f3, ru, f2, g2, .go (re.mono k2) rel2 (xl.mono k2) hp fun v3 m3 w3 H3 hp rv3 rel3 k3 => aug_val hp (z5.mono k3) rv3 fun z w hz rz => ?_⟩
              exact set_ok hz (.ref a) (ru.mono k3) rz rel3 fun m4 H4 h4 rel4 k4 => q.1 r m4 σ H4 h4 (re.mono (k2.trans (k3.trans k4))) rel4 (k2.trans (k3.trans k4))
        | _ => exact hp.elim
      · cases h3
    | tp _ => cases h3
  · cases hm
theorem s_rais (c : Nat) : GoS exc L t n C N (.rais c) := fun sc X W ps hm cx tk => by
  simp only [mS] at hm
  split at hm
  · simp only [Bool.and_eq_true, decide_eq_true_eq] at hm
    obtain ⟨⟨⟨hc0, h1⟩, h2⟩, h3⟩ := hm
    have hh := cx.cold hc0
    subst h1
    cases he : t.ex c with
    | false =>
      refine ⟨fun pins s σ H D J ⟨r, m, Q, Xd, re, rel, h, q, xl⟩ => ?_⟩
      have h0 : (n.hx.isNone && t.ex c) = true := (show (n.hx.isNone && t.ex c) = true ∧ _ from h).1
      rw [he, Bool.and_false] at h0
      cases h0
    | true =>
      obtain ⟨Ca, e1, e2⟩ := cx.sta.exr c he
      have F := cx.sta.exs c Ca e1
      refine PS.weak (L2N.ps_raise (cx.calm hh) tk.1 (L2N.pmk_own PySem.F.excBase_ValueError F.q e2 F.kp (raises_own F.sb F.ty) (cx.gl h2) (okx_d h3).1)) fun D σ H ⟨r, m, Q, Xd, re, rel, h, q, xl⟩ => ?_
      exact xl c r m Ca H σ h.2 e1 re rel (.refl H)
  · cases hm
end
section
variable {exc : Nat → Option Addr} {L : Lk} {t : Tab} {N : List Str}
mutual
theorem goS : ∀ (s : S) (n : Dn) (C : Nm), GoS exc L t n C N s
  | .pass, _, _ => s_pass
  | .ex e, _, _ => s_ex e
  | .asg tg e, _, _ => s_asg tg e
  | .aug tg op e, _, _ => s_aug tg op e
  | .ife _ a b, n, C => s_ife (goSs a n C) (goSs b n C)
  | .fr _ _ b, n, C => s_fr (goSs b n C)
  | .whl _ b, n, C => s_whl (goSs b n C)
  | .brk, _, _ => s_brk
  | .cnt, _, _ => s_cnt
  | .ret e, _, _ => s_ret e
  | .ret0, _, _ => s_ret0
  | .rais c, _, _ => s_rais c
  | .nev, _, _ => s_nev
theorem goSs : ∀ (s : Ss) (n : Dn) (C : Nm), GoSs exc L t n C N s
  | .nil, _, _ => ss_nil
  | .cons s ss, n, C => ss_cons (goS s n C) (goSs ss n C)
end
end
end Mn
end

section
set_option Elab.async false
set_option linter.all false
set_option maxRecDepth 100000
set_option maxHeartbeats 4000000
namespace Mn
open PySem PySem.Spec PyProof.Rows L2 RZ
namespace Pk
variable (p : Pk)
def exN (K : PySem.W.Frag) : Nat → Option Addr := fun c => if c ∈ p.rz then some (He.ga K (p.nm c)) else none
end Pk
theorem blts_ok {x : Str} (h : isBlt x = true) : x ∈ blts := of_decide_eq_true h
theorem scB_ok {N P : List Str} {sc : Scope} (h : scB N P sc = true) : FnScope N P sc := by
  simp only [scB, Bool.and_eq_true, Bool.not_eq_true', decide_eq_true_eq, List.all_eq_true] at h
  obtain ⟨⟨⟨⟨⟨⟨h1, h2⟩, h3⟩, h4⟩, h5⟩, h6⟩, h7⟩ := h
  refine ⟨kind_fn (b := true) h1, h2, h3, h4, h5, fun x hx => ?_, fun y hy e => ?_⟩
  · have := h6 x hx
    split at this
    · exact .inl (by assumption)
    · exact .inr (by assumption)
    · cases this
  · have := h7 y hy
    rw [e] at this
    cases this
section
variable {K : PySem.W.Frag}
mutual
theorem relK_ok : ∀ {d : D} {u : Value}, relK K d u = true → ∃ v, RelV v u ∧ ∀ H, Rp K H d v
  | .non, u, h => by
    cases u with
    | none => exact ⟨.non, rfl, fun _ => .non⟩
    | _ => cases h
  | .bl b, u, h => by
    cases u with
    | bool c =>
      have h : (b == c) = true := h
      rw [beq_iff_eq] at h
      subst h
      exact ⟨.bl b, rfl, fun _ => .bl b⟩
    | _ => cases h
  | .int i, u, h => by
    cases u with
    | int j t =>
      have h : i = j := of_decide_eq_true h
      subst h
      exact ⟨.int i, ⟨t, rfl⟩, fun _ => .int i⟩
    | _ => cases h
  | .str s, u, h => by
    cases u with
    | str z t =>
      have h : z = toS s := of_decide_eq_true h
      subst h
      exact ⟨.str (toS s), ⟨t, rfl⟩, fun _ => .str s⟩
    | _ => cases h
  | .tup ds, u, h => by
    cases u with
    | ref a =>
      simp only [relK] at h
      split at h
      · rename_i c its n sl e
        simp only [Bool.and_eq_true, decide_eq_true_eq] at h
        obtain ⟨⟨h1, h2⟩, h3⟩ := h
        obtain ⟨vs, r1, r2⟩ := relKs_ok h3
        subst h1
        exact ⟨.ref a, rfl, fun H => .tup (.inr ⟨_, its, n, e, rfl, rfl, rfl, h2, r1⟩) (r2 H)⟩
      · cases h
    | _ => simp [relK] at h
  | .lst _, _, h => by simp [relK] at h
  | .ref _, _, h => by simp [relK] at h
  | .exc _ _, _, h => by simp [relK] at h
theorem relKs_ok : ∀ {ds : List D} {us : List Value}, relKs K ds us = true → ∃ vs, Vals vs us ∧ ∀ H, Rps K H ds vs
  | [], [], _ => ⟨[], .nil, fun _ => .nil⟩
  | [], _ :: _, h => by simp [relKs] at h
  | _ :: _, [], h => by simp [relKs] at h
  | d :: ds, u :: us, h => by
    simp only [relKs, Bool.and_eq_true] at h
    obtain ⟨v, h1, h2⟩ := relK_ok h.1
    obtain ⟨vs, h3, h4⟩ := relKs_ok h.2
    exact ⟨v :: vs, .cons h1 h3, fun H => .cons (h2 H) (h4 H)⟩
end
end
def obsMG (n : Nat) (p : Pk) (g : Addr → Option Obj) : He.AlD := obsM p (He.frG g (He.asD g n))
def hookM (n : Nat) (p : Pk) : PySem.W.Hook where
  α := He.AlD
  obs := fun s => obsMG n p s.heap.get?
  val := fun _ => He.valD p.fnl
  says := fun _ h => ∃ K : PySem.W.Frag, K.In h ∧ SaysM p K
  of := fun _ _ e => ⟨_, He.frG_in, e⟩
  keeps := fun _ _ _ ⟨K, hK, c⟩ k => ⟨K, PySem.W.Frag.In.keeps hK k, c⟩
theorem SaysM.both {p : Pk} {K : PySem.W.Frag} (c : SaysM p K) : conB p K = true ∧ excB p K = true ∧ He.SaysD p.fa p.fnl K := by
  have h1 : (conB p K && (excB p K && (He.obsD p.fa p.fnl K).1)) = true := congrArg (fun z : He.AlD => z.1) c
  have h2 : (He.obsD p.fa p.fnl K).2 = (He.valD p.fnl).2 := by
    show (obsM p K).2 = _
    rw [show obsM p K = He.valD p.fnl from c]
  rw [Bool.and_eq_true, Bool.and_eq_true] at h1
  exact ⟨h1.1, h1.2.1, Prod.ext h1.2.2 h2⟩
/-- a def's call binds its arguments in their order -/
def BindP (d : He.DefD) : Prop := ∀ (kV doc pm : Value) (an : Option Addr) (cdv ct : Value) (us : List Value), us.length = (parN d).length → bindArgs (PySem.W.fnOf d.name d.qual d.params d.body d.scope .none kV doc pm an cdv ct) ⟨us, []⟩ = pure ((parN d).zip us)
section
variable {p : Pk} {K : PySem.W.Frag} {P : Program} {w : World} {h base : Heap} {mg : Str → Option Value}
theorem start_ok {F : PySem.W.Frag} {H : Hp} {fn : Fn} {N : List Str} (hl : fn.slots = N.length) {ds : List D} {vs : List V} (r : Rps F H ds vs) : REnv F H (Mn.start fn ds) (L2.start N vs) := by
  refine ⟨by simp [Mn.start, L2.start, r.length, hl], fun i d e => ?_⟩
  rw [vget_get] at e
  unfold Mn.start at e
  by_cases hi : i < ds.length
  · rw [List.getElem?_append_left (by simpa using hi), List.getElem?_map] at e
    cases q : ds[i]? with
    | none => rw [q] at e; cases e
    | some d2 =>
      rw [q] at e
      cases e
      obtain ⟨v, h1, h2⟩ := r.get q
      refine ⟨v, ?_, h2⟩
      unfold L2.start
      have hi2 : i < vs.length := by rw [← r.length]; exact hi
      rw [List.getElem?_append_left (by simpa using hi2), List.getElem?_map, h1]
      rfl
  · rw [List.getElem?_append_right (by simpa using hi), List.getElem?_replicate] at e
    split at e <;> cases e
theorem KD.ret {L : Lk} {H : Hp} {P : PD} {Q : VK} (q : Kt L H P Q) : KD L H (retK P) { nx := fun _ H' => Q .non H', rt := Q } :=
  ⟨fun r m σ H2 hp re rel k => q _ _ _ _ hp .non rel k, fun d m v H2 hp rv rel k => q _ _ _ _ hp rv rel k, fun _ _ _ _ h => h.elim, fun _ _ _ _ h => h.elim⟩
theorem Pk.find {c f : Nat} {fn : Fn} (e : p.tab.F c f = some fn) : ∃ d ∈ p.defs, p.at_ c f = some d ∧ d.fn = fn ∧ d.c = c ∧ d.f = f := by
  have e : (p.at_ c f).map (·.fn) = some fn := e
  cases q : p.at_ c f with
  | none => rw [q] at e; cases e
  | some d =>
    rw [q] at e
    cases e
    have h1 := List.find?_some q
    simp only [Bool.and_eq_true, decide_eq_true_eq] at h1
    exact ⟨d, List.mem_of_find?_eq_some q, rfl, rfl, h1.1, h1.2⟩
theorem Pk.parts (ok : p.ok = true) : p.nms.Nodup ∧ (∀ q ∈ p.fld, q.2 < p.nms.length ∧ q.1 ∈ p.cls) ∧ (∀ c ∈ p.cls, c ≠ 0) ∧ p.nm p.ini = "__init__" ∧ p.ini < p.nms.length ∧ ∀ e ∈ p.defs, p.okD e = true := by
  simp only [Pk.ok, Bool.and_eq_true, decide_eq_true_eq, List.all_eq_true, Bool.not_eq_true', decide_eq_false_iff_not] at ok
  obtain ⟨⟨⟨⟨⟨h1, h2⟩, h3⟩, h4⟩, h5⟩, h6⟩ := ok
  exact ⟨h1, h2, h3, h4, h5, h6⟩
theorem Pk.inj (ok : p.ok = true) {a b : Nat} (ha : p.C.ok a = true) (hb : p.C.ok b = true) (e : p.C.nm a = p.C.nm b) : a = b := by
  have ha : a < p.nms.length := of_decide_eq_true ha
  have hb : b < p.nms.length := of_decide_eq_true hb
  have e : p.nms.getD a "" = p.nms.getD b "" := e
  rw [List.getD_eq_getElem?_getD, List.getD_eq_getElem?_getD, List.getElem?_eq_getElem ha, List.getElem?_eq_getElem hb] at e
  exact (List.getElem_inj (p.parts ok).1).mp e
theorem Pk.okD_parts {e : Dd} (h : p.okD e = true) : e.fn.params = (parN e.d).length ∧ e.fn.slots = e.N.length ∧ FnScope e.N (parN e.d) e.d.scope ∧ e.d.at_ = (if e.c = 0 then (p.nm e.f, none) else (p.nm e.c, some (p.nm e.f))) ∧ e.f < p.nms.length ∧
    (e.c = 0 ∨ e.c ∈ p.cls) ∧ mSs e.N p.C e.fn.body e.d.scope e.d.body = true ∧ (e.c = 0 → e.f ∈ p.hfn → mSs e.N { p.C with hot := true } e.fn.body e.d.scope e.d.body = true) := by
  simp only [Pk.okD, Bool.and_eq_true, Bool.or_eq_true, decide_eq_true_eq] at h
  obtain ⟨⟨⟨⟨⟨⟨⟨⟨⟨h1, h2⟩, h3⟩, _⟩, _⟩, h4⟩, h5⟩, h6⟩, h7⟩, h8⟩ := h
  refine ⟨h1, h2, scB_ok h3, h4, h5, h6, h7, fun z1 z2 => ?_⟩
  rcases h8 with z | z
  · simp [z1, z2] at z
  · exact z
theorem Ln.adr (l : Ln p K mg) {e : Dd} (he : e ∈ p.defs) (ok : p.okD e = true) : He.fAd K e.d.at_ = if e.c = 0 then He.ga K (p.nm e.f) else He.ma K (He.ga K (p.nm e.c)) (p.nm e.f) := by
  rw [(Pk.okD_parts ok).2.2.2.1]
  split <;> rfl
theorem Sta.toHot {exc : Nat → Option Addr} {L : Lk} {t : Tab} {n : Dn} {C : Nm} {X : Cx} (a : Sta exc L t n C X) : Sta exc L t n { C with hot := true } X :=
  { k := a.k, w := a.w, nm := a.nm, inj := a.inj, okL := a.okL, fldL := a.fldL, okF := a.okF, blt := a.blt, con := a.con, fn := a.fn, fnh := a.fnh, met := a.met, mke := a.mke, cls := a.cls, att := a.att, exs := a.exs, exg := a.exg, exr := a.exr }
theorem sta_of (l : Ln p K mg) {n : Dn} {X : Cx} {w : World} (hW : X.w = w) (hK : X.K = K) (hm : X.mg = mg) (hF : n.hx = none → ∀ e ∈ p.defs, p.at_ e.c e.f = some e → ∀ fd, DefAt p K e fd → FnOk X.prog X.w X.K X.mg X.base (CXk (SX (p.exN K)) X.prog X.w) (lv n.n) (He.fAd K e.d.at_) fd (parN e.d) (spOf (p.exN K) (p.L K w) p.tab n e.c e.f))
    (hH : ∀ h, ∀ e ∈ p.defs, p.at_ e.c e.f = some e → e.c = 0 → e.f ∈ p.hfn → ∀ fd, DefAt p K e fd → FnK (SX (p.exN K)) X.prog X.w X.K X.mg X.base (lv n.n) (He.fAd K e.d.at_) fd (parN e.d) (spOf (p.exN K) (p.L K w) p.tab ⟨n.n, some h⟩ e.c e.f) (Hld (p.exN K) h)) :
    Sta (p.exN K) (p.L K w) p.tab n p.C X := by
  obtain ⟨h1, h2, h3, h4, h5, h6⟩ := p.parts l.ok
  refine { k := hK, w := hW, nm := rfl, inj := fun a b ha hb e => Pk.inj l.ok ha hb e, okL := rfl, fldL := rfl, okF := fun c f h => ?_, blt := fun x hx => by rw [hm]; exact l.blt x hx, con := fun k d h => by rw [hm]; exact l.con k d h, fn := fun z0 f fn h => ?_, fnh := fun hx f fn h hf => ?_, met := fun z0 c k fn Ca h hc _ => ?_, mke := fun z0 c fn hc h => ?_, cls := fun c Ca h => ?_, att := fun c Ca f h hf => ?_, exs := fun c Ca h => ?_, exg := fun k h => ?_, exr := fun c h => ?_ }
  · have h : (c, f) ∈ p.fld := of_decide_eq_true h
    exact decide_eq_true (h2 _ h).1
  · obtain ⟨e, he, hat, e1, e2, e3⟩ := Pk.find h
    obtain ⟨fd, D⟩ := l.defs e he
    have hf := hF z0 e he (by rw [e2, e3]; exact hat) fd D
    have ha := l.adr he D.okD
    have hg := l.glo e he e2
    have hkp := D.fun_.kp
    have hb := D.bnd
    subst e3
    rw [e2] at hf
    rw [if_pos e2] at ha
    rw [ha] at hf hkp
    exact ⟨_, fd, _, by rw [hm]; exact hg, by rw [hK]; exact hkp, by rw [hK]; exact hb, hf⟩
  · obtain ⟨e, he, hat, e1, e2, e3⟩ := Pk.find h
    obtain ⟨fd, D⟩ := l.defs e he
    have hf2 := hH hx e he (by rw [e2, e3]; exact hat) e2 (by rw [e3]; exact of_decide_eq_true hf) fd D
    have ha := l.adr he D.okD
    have hg := l.glo e he e2
    have hkp := D.fun_.kp
    have hb := D.bnd
    subst e3
    rw [e2] at hf2
    rw [if_pos e2] at ha
    rw [ha] at hf2 hkp
    exact ⟨_, fd, _, by rw [hm]; exact hg, by rw [hK]; exact hkp, by rw [hK]; exact hb, hf2⟩
  · obtain ⟨e, he, hat, e1, e2, e3⟩ := Pk.find h
    obtain ⟨fd, D⟩ := l.defs e he
    have hcs : c ∈ p.cls ∧ Ca = He.ga K (p.nm c) := by
      have hc : (if c ∈ p.cls then some (He.ga K (p.nm c)) else none) = some Ca := hc
      split at hc
      · rename_i z; exact ⟨z, (Option.some.inj hc).symm⟩
      · cases hc
    have hc0 := h3 c hcs.1
    have hf := hF z0 e he (by rw [e2, e3]; exact hat) fd D
    have ha := l.adr he D.okD
    have hg := l.met e he (by rw [e2]; exact hc0)
    have hb := D.bnd
    subst e2 e3
    rw [if_neg hc0] at ha
    rw [ha] at hf
    refine ⟨_, fd, _, ?_, by rw [hK]; exact hb, hf⟩
    rw [hK, hcs.2]
    exact hg
  · obtain ⟨e, he, hat, e1, e2, e3⟩ := Pk.find h
    obtain ⟨fd, D⟩ := l.defs e he
    have hcs : e.c ∈ p.cls := by
      rcases (Pk.okD_parts D.okD).2.2.2.2.2.1 with z | z
      · exact absurd (e2.symm.trans z) hc
      · exact z
    have hf := hF z0 e he (by rw [e2, e3]; exact hat) fd D
    have ha := l.adr he D.okD
    have hb := D.bnd
    subst e2
    have e3 : e.f = p.ini := e3
    rw [if_neg hc, e3, h4] at ha
    rw [ha, e3] at hf
    obtain ⟨c1, c2, c3⟩ := l.cls _ hcs
    refine ⟨_, _, fd, _, (show (if e.c ∈ p.cls then some (He.ga K (p.nm e.c)) else none) = some (He.ga K (p.nm e.c)) from if_pos hcs), by rw [hK]; exact c3, by rw [hm]; exact c1, by rw [hK]; exact hb, hf⟩
  · have h : (if c ∈ p.cls then some (He.ga K (p.nm c)) else none) = some Ca := h
    split at h
    · rename_i z
      cases h
      rw [hK]
      exact (l.cls c z).2.1
    · cases h
  · have h : (if c ∈ p.cls then some (He.ga K (p.nm c)) else none) = some Ca := h
    split at h
    · rename_i z
      cases h
      rw [hK]
      exact l.noat (c, f) (of_decide_eq_true hf)
    · cases h
  · have h : (if c ∈ p.rz then some (He.ga K (p.nm c)) else none) = some Ca := h
    split at h
    · rename_i z
      cases h
      rw [hK]
      exact (l.exs c z).1
    · cases h
  · obtain ⟨g1, g2⟩ := l.exg k (of_decide_eq_true h)
    refine ⟨_, by rw [hm]; exact g1, fun c Ca hc => ?_⟩
    have hc : (if c ∈ p.rz then some (He.ga K (p.nm c)) else none) = some Ca := hc
    split at hc
    · rename_i z
      cases hc
      rw [hK]
      exact g2 c z
    · cases hc
  · have hz : c ∈ p.rz := of_decide_eq_true h
    exact ⟨_, (show (if c ∈ p.rz then some (He.ga K (p.nm c)) else none) = some (He.ga K (p.nm c)) from if_pos hz), by rw [hm]; exact (l.exs c hz).2⟩
/-- THE LINK, while an exception is handled: a def keeps its term's promise -/
theorem fn_hot (l : Ln p K mg) : ∀ (n : Nat) (h : Nat × Nat) (e : Dd), e ∈ p.defs → p.at_ e.c e.f = some e → e.c = 0 → e.f ∈ p.hfn → ∀ fd, DefAt p K e fd → FnK (SX (p.exN K)) P w K mg base (lv n) (He.fAd K e.d.at_) fd (parN e.d) (spOf (p.exN K) (p.L K w) p.tab ⟨n, some h⟩ e.c e.f) (Hld (p.exN K) h)
  | 0, h, e, he, hat, _, _, fd, D => ⟨fun vs H Q E ⟨ds, m, R, Xc, _, _, h, _⟩ => False.elim h, fun A outer s H args us vs Q E p2 _ _ _ _ _ _ _ ⟨ds, m, R, Xc, _, _, h, _⟩ => False.elim h⟩
  | n + 1, h, e, he, hat, hc0, hfe, fd, D => by
    obtain ⟨o1, o2, S, _, _, _, _, hm⟩ := Pk.okD_parts D.okD
    have hm := hm hc0 hfe
    have hfn : ∀ fn, p.tab.F e.c e.f = some fn → fn = e.fn := fun fn h => by
      have h : (p.at_ e.c e.f).map (·.fn) = some fn := h
      rw [hat] at h
      exact (Option.some.inj h).symm
    refine fnK_of D.fun_ S (fun vs H Q E ⟨ds, m, R, Xc, rs, _, ⟨fn, hf, hl, _⟩, _⟩ => by rw [← rs.length, hl, hfn fn hf, o1]) fun cdv A outer s H vs Q E pa hot hG hr ⟨ds, m, R, Xc, rs, rel, ⟨fn, hf, hl, hwp⟩, q, xl⟩ => ?_
    have e1 := hfn fn hf
    subst e1
    have sta : Sta (p.exN K) (p.L K w) p.tab ⟨n, some h⟩ p.C (L2H.cxH (CXk (SX (p.exN K)) P w) P w K mg base e.N e.d.qual e.d.scope (He.fAd K e.d.at_) cdv A outer s H E pa) := sta_of l rfl rfl rfl (fun y => (nomatch y)) fun h2 e2 he2 hat2 hc2 hf2 fd2 D2 => fn_hot l n h2 e2 he2 hat2 hc2 hf2 fd2 D2
    have cx : SCtx (p.exN K) (p.L K w) p.tab ⟨n, some h⟩ { p.C with hot := true } e.N e.d.scope (L2H.cxH (CXk (SX (p.exN K)) P w) P w K mg base e.N e.d.qual e.d.scope (He.fAd K e.d.at_) cdv A outer s H E pa) :=
      { sta := sta.toHot, nn := rfl, sc := rfl, nd := S.nd, hot := rfl, calm := fun y => (nomatch y), room := fun y => (nomatch y), roomH := hr, own := L2.passes_of rfl, hld := fun h2 e2 => (by cases e2; exact ⟨pa, hot, List.mem_cons_self, hG⟩), fn := fun _ => rfl, pat := fun hd => L2H.passesAt_of rfl hd, stk := rfl, frm := rfl }
    exact ⟨_, goSs e.fn.body _ _ _ _ (fun _ _ _ _ => False) _ hm cx takesN, Mn.start e.fn ds, m, retK R, XF, start_ok o2 rs, rel, hwp, KD.ret q, xlN⟩
/-- THE LINK: every def keeps its term's promise, at every depth -/
theorem fn_all (l : Ln p K mg) : ∀ (n : Nat) (e : Dd), e ∈ p.defs → p.at_ e.c e.f = some e → ∀ fd, DefAt p K e fd → FnOk P w K mg base (CXk (SX (p.exN K)) P w) (lv n) (He.fAd K e.d.at_) fd (parN e.d) (spOf (p.exN K) (p.L K w) p.tab ⟨n, none⟩ e.c e.f)
  | 0, e, he, hat, fd, D => ⟨fun vs H Q E ⟨ds, m, R, Xc, _, _, h, _⟩ => False.elim h, fun A outer s H args us vs Q E _ _ _ _ ⟨ds, m, R, Xc, _, _, h, _⟩ => False.elim h⟩
  | n + 1, e, he, hat, fd, D => by
    obtain ⟨o1, o2, S, _, _, _, hm, _⟩ := Pk.okD_parts D.okD
    have hfn : ∀ fn, p.tab.F e.c e.f = some fn → fn = e.fn := fun fn h => by
      have h : (p.at_ e.c e.f).map (·.fn) = some fn := h
      rw [hat] at h
      exact (Option.some.inj h).symm
    refine D.fun_.ok S (fun vs H Q E ⟨ds, m, R, Xc, rs, _, ⟨fn, hf, hl, _⟩, _⟩ => by rw [← rs.length, hl, hfn fn hf, o1]) fun cdv A outer s H vs Q E hr ⟨ds, m, R, Xc, rs, rel, ⟨fn, hf, hl, hwp⟩, q, xl⟩ => ?_
    have e1 := hfn fn hf
    subst e1
    have sta : Sta (p.exN K) (p.L K w) p.tab ⟨n, none⟩ p.C (cxOf (CXk (SX (p.exN K)) P w) P w K mg base e.N e.d.qual e.d.scope (He.fAd K e.d.at_) cdv A outer s H E) := sta_of l rfl rfl rfl (fun _ e2 he2 hat2 fd2 D2 => fn_all l n e2 he2 hat2 fd2 D2) fun h e2 he2 hat2 hc2 hf2 fd2 D2 => fn_hot l n h e2 he2 hat2 hc2 hf2 fd2 D2
    have cx : SCtx (p.exN K) (p.L K w) p.tab ⟨n, none⟩ p.C e.N e.d.scope (cxOf (CXk (SX (p.exN K)) P w) P w K mg base e.N e.d.qual e.d.scope (He.fAd K e.d.at_) cdv A outer s H E) :=
      { sta := sta, nn := rfl, sc := rfl, nd := S.nd, hot := rfl, calm := fun _ => rfl, room := fun _ => hr, roomH := L2H.roomH_of hr, own := L2.passes_of rfl, hld := fun h y => (nomatch y), fn := fun _ => rfl, pat := fun hd => L2H.passesAt_of rfl hd, stk := rfl, frm := rfl }
    exact ⟨_, goSs e.fn.body _ _ _ _ (fun cls d _ H => E cls d H) _ hm cx (Tk.start rfl rfl rfl rfl), Mn.start e.fn ds, m, retK R, fun c _ m2 => Xc c m2, start_ok o2 rs, rel, hwp, KD.ret q, fun c r m2 Ca H2 σ hx he _ rel2 k2 => xl c m2 Ca H2 hx he rel2 k2⟩
/-- what the head's facts give -/
theorem Ln.of {p : Pk} {K : PySem.W.Frag} {h : Heap} {mg : Str → Option Value} (X : K.In h) (G : h.Ns mainGlobals mg) (ok : p.ok = true) (bnd : ∀ e ∈ p.defs, BindP e.d) (c : SaysM p K) : Ln p K mg := by
  obtain ⟨hc, hx, hs⟩ := c.both
  have fct : ∀ {f : He.Fa}, f ∈ p.fa → f.ok K = true := fun {f} hf => hs.facts hf
  refine { ok := ok, blt := fun x hx => ?_, con := fun k d hd => ?_, glo := fun e he hz => ?_, met := fun e he hz => ?_, cls := fun c hc => ?_, noat := fun q hq => ?_, exs := fun c hc => ?_, exg := fun k hk => ?_, defs := fun e he => ?_ }
  · refine He.free_ok X G (fct (f := .free x) ?_)
    unfold Pk.fa
    simp only [List.mem_append, List.mem_map]
    exact .inl (.inl (.inl (.inl (.inl (.inl ⟨x, blts_ok hx, rfl⟩)))))
  · have hd : (p.con.any fun q => decide (q.1 = k) && D.same q.2 d) = true := hd
    rw [List.any_eq_true] at hd
    obtain ⟨q, hq, hz⟩ := hd
    rw [Bool.and_eq_true, decide_eq_true_eq] at hz
    obtain ⟨z1, z2⟩ := hz
    have z2 := same_eq z2
    subst z1 z2
    have h1 := List.all_eq_true.mp hc q hq
    split at h1
    · rename_i u e
      obtain ⟨v, r1, r2⟩ := relK_ok h1
      exact ⟨v, u, PySem.W.mg_of X G e, r1, r2⟩
    · cases h1
  · refine He.glo_ok X G (fct (f := .glo (p.nm e.f)) ?_)
    unfold Pk.fa
    simp only [List.mem_append, List.mem_map, List.mem_filter]
    exact .inl (.inl (.inl (.inl (.inl (.inr ⟨e, ⟨he, decide_eq_true hz⟩, rfl⟩)))))
  · refine He.meth_ok (fct (f := .meth (p.nm e.c) (p.nm e.f)) ?_)
    unfold Pk.fa
    simp only [List.mem_append, List.mem_map, List.mem_filter]
    exact .inl (.inl (.inl (.inr ⟨e, ⟨he, by simp [hz]⟩, rfl⟩)))
  · have hm : ∀ f ∈ ([.glo (p.nm c), .cls (p.nm c), .mkr (p.nm c)] : List He.Fa), f ∈ p.fa := fun f hf => by
      unfold Pk.fa
      simp only [List.mem_append, List.mem_flatMap]
      exact .inl (.inl (.inl (.inl (.inr ⟨c, hc, hf⟩))))
    exact ⟨He.glo_ok X G (fct (hm _ (by simp))), He.cls_ok (fct (hm _ (by simp))), He.mkr_ok (fct (hm _ (by simp)))⟩
  · refine He.noat_ok (fct (f := .noat (p.nm q.1) (p.nm q.2)) ?_)
    unfold Pk.fa
    simp only [List.mem_append, List.mem_map]
    exact .inl (.inl (.inr ⟨q, hq, rfl⟩))
  · have hm : ∀ f ∈ ([.glo (p.nm c), .exc (p.nm c)] : List He.Fa), f ∈ p.fa := fun f hf => by
      unfold Pk.fa
      simp only [List.mem_append, List.mem_flatMap]
      exact .inl (.inr ⟨c, hc, hf⟩)
    obtain ⟨e1, e2, e3, e4⟩ := He.exc_ok (fct (hm (.exc (p.nm c)) (by simp)))
    have hx1 : (p.rz.all fun c => oneB K (He.ga K (p.nm c))) = true := (Bool.and_eq_true_iff.mp hx).1
    have ho := List.all_eq_true.mp hx1 c hc
    simp only [oneB, Bool.and_eq_true, decide_eq_true_eq] at ho
    obtain ⟨o1, o2, o3, o4, o5, o6, o7, o8⟩ := ho
    exact ⟨⟨e1, e2, e3, e4, ⟨He.eqO_ok o1, He.eqO_ok o2, e3, o3, He.eqO_ok o4, He.eqO_ok o5, o6, o7⟩, o8⟩, He.glo_ok X G (fct (hm (.glo (p.nm c)) (by simp)))⟩
  · have hm : ∀ f ∈ (.glo (p.nm k) :: p.rz.map fun c => .exm (p.nm c) (p.nm k) (decide ((c, k) ∈ p.sub)) : List He.Fa), f ∈ p.fa := fun f hf => by
      unfold Pk.fa
      simp only [List.mem_append, List.mem_flatMap]
      exact .inr ⟨k, hk, hf⟩
    refine ⟨He.glo_ok X G (fct (hm (.glo (p.nm k)) (by simp))), fun c hc => ⟨He.exm_ok (fct (hm (.exm (p.nm c) (p.nm k) (decide ((c, k) ∈ p.sub))) (List.mem_cons_of_mem _ (List.mem_map.mpr ⟨c, hc, rfl⟩)))), ?_⟩⟩
    have hx2 := List.all_eq_true.mp (Bool.and_eq_true_iff.mp hx).2 c hc
    exact of_decide_eq_true (List.all_eq_true.mp hx2 k hk)
  · have ho := (p.parts ok).2.2.2.2.2 e he
    obtain ⟨fd, F⟩ := hs.defs (d := e.d) (List.mem_map.mpr ⟨e, he, rfl⟩)
    have hd : e.d.dfl = [] ∧ e.d.kwd = [] := by
      simp only [Pk.okD, Bool.and_eq_true, List.isEmpty_iff] at ho
      exact ⟨ho.1.1.1.1.1.1.2, ho.1.1.1.1.1.2⟩
    have F2 : FunD K e.d.name e.d.qual e.d.params e.d.body e.d.scope [] [] (He.fAd K e.d.at_) fd := by
      have e1 : e.d.dvs K = [] := by show e.d.dfl.map _ = []; rw [hd.1]; rfl
      have e2 : e.d.kws K = [] := by show e.d.kwd.map _ = []; rw [hd.2]; rfl
      rw [e1, e2] at F
      exact F
    exact ⟨fd, F2, F2.bindsN (bnd e he), ho⟩
theorem fz_of {F : PySem.W.Frag} {H : Hp} {a : Addr} {vs : List V} (o : Only H) (s : SqL F H a vs) : FzL F H a vs := by
  rcases s with (h | h) | h
  · rcases o a with z | ⟨b, xs, z⟩
    · rw [h] at z; cases z
    · rw [h] at z; cases z
  · exact .inl h
  · exact .inr h
theorem no_out {S : Value → Prop} {H : Hp} {s : Shared} {x : Value} {s2 : Shared} : CXk S P w [] H s (fun _ _ _ => False) x s2 → False := fun h => by
  rcases h with ⟨_, _, _, _, _, _, _, _, _, _, _, _, z⟩ | ⟨_, _, _, _, _, _, _, _, _, _, _, _, z⟩
  · exact z.elim
  · exact z.2.elim
/-- THE END: the law's term answers true -/
theorem end_of {l : PySem.W.OpenLaw} {q : Program} {loose : List Str} {XP : (Str → Option Value) → Heap → Prop} {d : DefRec} (p : Pk) (nd hn : Nat) (e : Dd) (h63 : l.most = some 63) (hdf : d.params.defaults = []) (hr : Room (lv nd) callerA)
    (he : e ∈ p.defs) (hat : p.at_ e.c e.f = some e) (hnm : d.name = p.nm e.f) (hz : e.c = 0) (hpar : parN e.d = (["_law_script"] : List Str)) (ok : p.ok = true) (bnd : ∀ e ∈ p.defs, BindP e.d)
    (law : ∀ ns : List Int, ns.length ≤ 63 → callN p.tab nd 0 e.f [.lst (ns.map D.int)] (fun _ => none) (fun d _ => d = .bl true) (fun _ _ => False)) :
    PySem.W.WalkO q loose XP (hookM hn p).says l.row.toRowW d [] (fun f vs => PySem.call f vs) := by
  refine Att.attach_call h63 hdf fun w s0 s1 mg mb fa o pm cd doc a vs ns Gt Yt ho hd hcd hmg hobj hints hlen hg => ?_
  obtain ⟨K, KX, c⟩ := Yt
  have ln : Ln p K mg := Ln.of KX Gt.T.g ok bnd c
  obtain ⟨fd, Dt⟩ := ln.defs e he
  have ga : mg (p.nm e.f) = some (.ref (He.ga K (p.nm e.f))) := ln.glo e he hz
  have had := ln.adr he Dt.okD
  rw [if_pos hz] at had
  rw [hnm] at hmg
  obtain rfl : fa = He.ga K (p.nm e.f) := by
    have := hmg.symm.trans ga
    cases this
    rfl
  have F : ∀ base : Heap, K.In base → base.Ns mainGlobals mg → FnOk l.prog w K mg base (CXk (SX (p.exN K)) l.prog w) (lv nd) (He.ga K (p.nm e.f)) fd (["_law_script"] : List Str) (spOf (p.exN K) (p.L K w) p.tab ⟨nd, none⟩ e.c e.f) := fun base _ _ => by
    have := fn_all (P := l.prog) (w := w) (base := base) ln nd e he hat fd Dt
    rw [had, hpar] at this
    exact this
  have B : ∀ (s : Shared) (u : Value), BindsTo s fd ⟨[u], []⟩ [("_law_script", u)] := fun s u => by
    have := FunD.bindsA Dt.fun_ (bnd e he) s [u] (by rw [hpar]; rfl)
    rw [hpar] at this
    exact this
  have S : ∀ H, Only H → SqL K H a (ns.map V.int) → spOf (p.exN K) (p.L K w) p.tab ⟨nd, none⟩ e.c e.f [.ref a] H (fun v _ => v = .bl true) fun _ _ _ => False := fun H hO hS => by
    have hcall := law ns hlen
    rw [← hz] at hcall
    refine ⟨[.lst (ns.map D.int)], fun _ => none, _, _, .cons (.lst (fz_of hO hS) (Rps.mkInts ns)) .nil, (fun a o h => by cases h), hcall, fun d m v H2 hd rv _ _ => ?_, fun k m2 Ca H2 hx _ _ _ => False.elim hx⟩
    have hd : d = .bl true := hd
    subst hd
    cases rv
    rfl
  have g1 := Gt.T.g
  have g2 := Gt.T.b
  exact law_call KX g1 g2 Gt.T.builtins Gt.T.nolimit hg hobj hints (Nat.le_trans hlen (by decide)) hr F B (fun H hO hS => S H hO hS)
    fun H x s2 hx => no_out hx
end
end Mn
end

section
set_option Elab.async false
set_option linter.all false
set_option maxRecDepth 100000
set_option maxHeartbeats 4000000
namespace Mn.K55
open PySem L2 Mn
theorem F_is_whole : T.F 0 23 = some f_is_whole := rfl
theorem F_rises : T.F 0 25 = some f_rises := rfl
theorem F_is_written : T.F 0 28 = some f_is_written := rfl
theorem F_is_entry : T.F 0 296 = some f_is_entry := rfl
theorem F_is_log : T.F 0 297 = some f_is_log := rfl
theorem F_are_joined : T.F 0 298 = some f_are_joined := rfl
theorem F_holds : T.F 0 161 = some f_holds := rfl
theorem F_law_bag : T.F 0 2 = some f_law_bag := rfl
theorem F_law_take : T.F 0 3 = some f_law_take := rfl
theorem F_law_entry : T.F 0 359 = some f_law_entry := rfl
theorem F_law_odd : T.F 0 360 = some f_law_odd := rfl
theorem F_law_is_log : T.F 0 358 = some f_law_is_log := rfl
theorem F_law_copy : T.F 0 362 = some f_law_copy := rfl
theorem F_law_due : T.F 0 361 = some f_law_due := rfl
theorem F_law : T.F 0 4 = some f_law := rfl
end Mn.K55
end

section
set_option Elab.async false
set_option linter.all false
set_option maxRecDepth 100000
set_option maxHeartbeats 4000000
namespace Mn.K55
open PySem L2 Mn
theorem b_is_whole : BindP e_is_whole.d := fun _ _ _ _ _ _ us hl => match us, hl with | [_, _, _], _ => by kernel_rfl
theorem b_is_name : BindP e_is_name.d := fun _ _ _ _ _ _ us hl => match us, hl with | [_], _ => by kernel_rfl
theorem b_rises : BindP e_rises.d := fun _ _ _ _ _ _ us hl => match us, hl with | [_], _ => by kernel_rfl
theorem b_are_rising : BindP e_are_rising.d := fun _ _ _ _ _ _ us hl => match us, hl with | [_, _, _, _], _ => by kernel_rfl
theorem b_are_whole : BindP e_are_whole.d := fun _ _ _ _ _ _ us hl => match us, hl with | [_, _, _, _], _ => by kernel_rfl
theorem b_is_written : BindP e_is_written.d := fun _ _ _ _ _ _ us hl => match us, hl with | [_, _, _], _ => by kernel_rfl
theorem b_is_device : BindP e_is_device.d := fun _ _ _ _ _ _ us hl => match us, hl with | [_], _ => by kernel_rfl
theorem b_is_place : BindP e_is_place.d := fun _ _ _ _ _ _ us hl => match us, hl with | [_], _ => by kernel_rfl
theorem b_is_loop : BindP e_is_loop.d := fun _ _ _ _ _ _ us hl => match us, hl with | [_], _ => by kernel_rfl
theorem b_is_zone : BindP e_is_zone.d := fun _ _ _ _ _ _ us hl => match us, hl with | [_], _ => by kernel_rfl
theorem b_are_zones : BindP e_are_zones.d := fun _ _ _ _ _ _ us hl => match us, hl with | [_], _ => by kernel_rfl
theorem b_is_plan : BindP e_is_plan.d := fun _ _ _ _ _ _ us hl => match us, hl with | [_], _ => by kernel_rfl
theorem b_devices : BindP e_devices.d := fun _ _ _ _ _ _ us hl => match us, hl with | [_], _ => by kernel_rfl
theorem b_stretches : BindP e_stretches.d := fun _ _ _ _ _ _ us hl => match us, hl with | [_], _ => by kernel_rfl
theorem b_openers : BindP e_openers.d := fun _ _ _ _ _ _ us hl => match us, hl with | [_], _ => by kernel_rfl
theorem b_parts : BindP e_parts.d := fun _ _ _ _ _ _ us hl => match us, hl with | [_, _], _ => by kernel_rfl
theorem b_told_twice : BindP e_told_twice.d := fun _ _ _ _ _ _ us hl => match us, hl with | [_], _ => by kernel_rfl
theorem b_crowded : BindP e_crowded.d := fun _ _ _ _ _ _ us hl => match us, hl with | [_], _ => by kernel_rfl
theorem b_zone_at_odds : BindP e_zone_at_odds.d := fun _ _ _ _ _ _ us hl => match us, hl with | [_], _ => by kernel_rfl
theorem b_wrong : BindP e_wrong.d := fun _ _ _ _ _ _ us hl => match us, hl with | [_], _ => by kernel_rfl
theorem b_is_let_by : BindP e_is_let_by.d := fun _ _ _ _ _ _ us hl => match us, hl with | [_], _ => by kernel_rfl
theorem b_spur_come_to : BindP e_spur_come_to.d := fun _ _ _ _ _ _ us hl => match us, hl with | [_, _, _, _], _ => by kernel_rfl
theorem b_come_to : BindP e_come_to.d := fun _ _ _ _ _ _ us hl => match us, hl with | [_, _, _, _, _, _], _ => by kernel_rfl
theorem b_steps_of : BindP e_steps_of.d := fun _ _ _ _ _ _ us hl => match us, hl with | [_, _], _ => by kernel_rfl
theorem b_feels : BindP e_feels.d := fun _ _ _ _ _ _ us hl => match us, hl with | [_, _, _, _], _ => by kernel_rfl
theorem b_all_rest : BindP e_all_rest.d := fun _ _ _ _ _ _ us hl => match us, hl with | [_, _, _], _ => by kernel_rfl
theorem b_is_brought : BindP e_is_brought.d := fun _ _ _ _ _ _ us hl => match us, hl with | [_], _ => by kernel_rfl
theorem b_is_history : BindP e_is_history.d := fun _ _ _ _ _ _ us hl => match us, hl with | [_], _ => by kernel_rfl
theorem b_in_hours : BindP e_in_hours.d := fun _ _ _ _ _ _ us hl => match us, hl with | [_, _, _], _ => by kernel_rfl
theorem b_is_row : BindP e_is_row.d := fun _ _ _ _ _ _ us hl => match us, hl with | [_, _], _ => by kernel_rfl
theorem b_is_out : BindP e_is_out.d := fun _ _ _ _ _ _ us hl => match us, hl with | [_, _], _ => by kernel_rfl
theorem b_is_table : BindP e_is_table.d := fun _ _ _ _ _ _ us hl => match us, hl with | [_], _ => by kernel_rfl
theorem b_Runner___init__ : BindP e_Runner___init__.d := fun _ _ _ _ _ _ us hl => match us, hl with | [_, _], _ => by kernel_rfl
theorem b_Runner_beat : BindP e_Runner_beat.d := fun _ _ _ _ _ _ us hl => match us, hl with | [_, _, _, _], _ => by kernel_rfl
theorem b_Runner_holds_now : BindP e_Runner_holds_now.d := fun _ _ _ _ _ _ us hl => match us, hl with | [_, _, _, _], _ => by kernel_rfl
theorem b_is_text_of : BindP e_is_text_of.d := fun _ _ _ _ _ _ us hl => match us, hl with | [_, _], _ => by kernel_rfl
theorem b_is_fault : BindP e_is_fault.d := fun _ _ _ _ _ _ us hl => match us, hl with | [_, _], _ => by kernel_rfl
theorem b_are_faults : BindP e_are_faults.d := fun _ _ _ _ _ _ us hl => match us, hl with | [_, _], _ => by kernel_rfl
theorem b_is_opener : BindP e_is_opener.d := fun _ _ _ _ _ _ us hl => match us, hl with | [_, _], _ => by kernel_rfl
theorem b_are_openers : BindP e_are_openers.d := fun _ _ _ _ _ _ us hl => match us, hl with | [_, _], _ => by kernel_rfl
theorem b_all_so : BindP e_all_so.d := fun _ _ _ _ _ _ us hl => match us, hl with | [_, _, _], _ => by kernel_rfl
theorem b_is_spot : BindP e_is_spot.d := fun _ _ _ _ _ _ us hl => match us, hl with | [_, _], _ => by kernel_rfl
theorem b_goes_on : BindP e_goes_on.d := fun _ _ _ _ _ _ us hl => match us, hl with | [_, _, _, _, _], _ => by kernel_rfl
theorem b_is_heard : BindP e_is_heard.d := fun _ _ _ _ _ _ us hl => match us, hl with | [_, _], _ => by kernel_rfl
theorem b_beside : BindP e_beside.d := fun _ _ _ _ _ _ us hl => match us, hl with | [_, _], _ => by kernel_rfl
theorem b_is_of_fence : BindP e_is_of_fence.d := fun _ _ _ _ _ _ us hl => match us, hl with | [_, _, _], _ => by kernel_rfl
theorem b_is_shut : BindP e_is_shut.d := fun _ _ _ _ _ _ us hl => match us, hl with | [_, _, _, _], _ => by kernel_rfl
theorem b_is_still : BindP e_is_still.d := fun _ _ _ _ _ _ us hl => match us, hl with | [_, _], _ => by kernel_rfl
theorem b_are_spans : BindP e_are_spans.d := fun _ _ _ _ _ _ us hl => match us, hl with | [_, _, _, _], _ => by kernel_rfl
theorem b_are_fewest : BindP e_are_fewest.d := fun _ _ _ _ _ _ us hl => match us, hl with | [_, _], _ => by kernel_rfl
theorem b_is_entry : BindP e_is_entry.d := fun _ _ _ _ _ _ us hl => match us, hl with | [_], _ => by kernel_rfl
theorem b_is_log : BindP e_is_log.d := fun _ _ _ _ _ _ us hl => match us, hl with | [_], _ => by kernel_rfl
theorem b_are_joined : BindP e_are_joined.d := fun _ _ _ _ _ _ us hl => match us, hl with | [_, _, _], _ => by kernel_rfl
theorem b_are_said : BindP e_are_said.d := fun _ _ _ _ _ _ us hl => match us, hl with | [_, _, _], _ => by kernel_rfl
theorem b_holds : BindP e_holds.d := fun _ _ _ _ _ _ us hl => match us, hl with | [_, _], _ => by kernel_rfl
theorem b_law_bag : BindP e_law_bag.d := fun _ _ _ _ _ _ us hl => match us, hl with | [_, _], _ => by kernel_rfl
theorem b_law_take : BindP e_law_take.d := fun _ _ _ _ _ _ us hl => match us, hl with | [_, _], _ => by kernel_rfl
theorem b_law_entry : BindP e_law_entry.d := fun _ _ _ _ _ _ us hl => match us, hl with | [_, _], _ => by kernel_rfl
theorem b_law_odd : BindP e_law_odd.d := fun _ _ _ _ _ _ us hl => match us, hl with | [_, _], _ => by kernel_rfl
theorem b_law_is_log : BindP e_law_is_log.d := fun _ _ _ _ _ _ us hl => match us, hl with | [_], _ => by kernel_rfl
theorem b_law_copy : BindP e_law_copy.d := fun _ _ _ _ _ _ us hl => match us, hl with | [_], _ => by kernel_rfl
theorem b_law_due : BindP e_law_due.d := fun _ _ _ _ _ _ us hl => match us, hl with | [_, _, _], _ => by kernel_rfl
theorem b_law : BindP e_law.d := fun _ _ _ _ _ _ us hl => match us, hl with | [_], _ => by kernel_rfl
theorem bq_nil : ∀ x ∈ ([] : List Dd), BindP x.d := fun _ h => nomatch h
theorem bq_cons {e : Dd} {l : List Dd} (h : BindP e.d) (k : ∀ x ∈ l, BindP x.d) : ∀ x ∈ e :: l, BindP x.d := fun x hx => by
  rcases List.mem_cons.mp hx with z | z
  · rw [z]; exact h
  · exact k x z
theorem bnd : ∀ e ∈ pk.defs, BindP e.d := bq_cons b_is_whole (bq_cons b_is_name (bq_cons b_rises (bq_cons b_are_rising (bq_cons b_are_whole (bq_cons b_is_written (bq_cons b_is_device (bq_cons b_is_place (bq_cons b_is_loop (bq_cons b_is_zone (bq_cons b_are_zones (bq_cons b_is_plan (bq_cons b_devices (bq_cons b_stretches (bq_cons b_openers (bq_cons b_parts (bq_cons b_told_twice (bq_cons b_crowded (bq_cons b_zone_at_odds (bq_cons b_wrong (bq_cons b_is_let_by (bq_cons b_spur_come_to (bq_cons b_come_to (bq_cons b_steps_of (bq_cons b_feels (bq_cons b_all_rest (bq_cons b_is_brought (bq_cons b_is_history (bq_cons b_in_hours (bq_cons b_is_row (bq_cons b_is_out (bq_cons b_is_table (bq_cons b_Runner___init__ (bq_cons b_Runner_beat (bq_cons b_Runner_holds_now (bq_cons b_is_text_of (bq_cons b_is_fault (bq_cons b_are_faults (bq_cons b_is_opener (bq_cons b_are_openers (bq_cons b_all_so (bq_cons b_is_spot (bq_cons b_goes_on (bq_cons b_is_heard (bq_cons b_beside (bq_cons b_is_of_fence (bq_cons b_is_shut (bq_cons b_is_still (bq_cons b_are_spans (bq_cons b_are_fewest (bq_cons b_is_entry (bq_cons b_is_log (bq_cons b_are_joined (bq_cons b_are_said (bq_cons b_holds (bq_cons b_law_bag (bq_cons b_law_take (bq_cons b_law_entry (bq_cons b_law_odd (bq_cons b_law_is_log (bq_cons b_law_copy (bq_cons b_law_due (bq_cons b_law (bq_nil)))))))))))))))))))))))))))))))))))))))))))))))))))))))))))))))
theorem od_is_whole : pk.okD e_is_whole = true := by decide +kernel
theorem od_is_name : pk.okD e_is_name = true := by decide +kernel
theorem od_rises : pk.okD e_rises = true := by decide +kernel
theorem od_are_rising : pk.okD e_are_rising = true := by decide +kernel
theorem od_are_whole : pk.okD e_are_whole = true := by decide +kernel
theorem od_is_written : pk.okD e_is_written = true := by decide +kernel
theorem od_is_device : pk.okD e_is_device = true := by decide +kernel
theorem od_is_place : pk.okD e_is_place = true := by decide +kernel
theorem od_is_loop : pk.okD e_is_loop = true := by decide +kernel
theorem od_is_zone : pk.okD e_is_zone = true := by decide +kernel
theorem od_are_zones : pk.okD e_are_zones = true := by decide +kernel
theorem od_is_plan : pk.okD e_is_plan = true := by decide +kernel
theorem od_devices : pk.okD e_devices = true := by decide +kernel
theorem od_stretches : pk.okD e_stretches = true := by decide +kernel
theorem od_openers : pk.okD e_openers = true := by decide +kernel
theorem od_parts : pk.okD e_parts = true := by decide +kernel
theorem od_told_twice : pk.okD e_told_twice = true := by decide +kernel
theorem od_crowded : pk.okD e_crowded = true := by decide +kernel
theorem od_zone_at_odds : pk.okD e_zone_at_odds = true := by decide +kernel
theorem od_wrong : pk.okD e_wrong = true := by decide +kernel
theorem od_is_let_by : pk.okD e_is_let_by = true := by decide +kernel
theorem od_spur_come_to : pk.okD e_spur_come_to = true := by decide +kernel
theorem od_come_to : pk.okD e_come_to = true := by decide +kernel
theorem od_steps_of : pk.okD e_steps_of = true := by decide +kernel
theorem od_feels : pk.okD e_feels = true := by decide +kernel
theorem od_all_rest : pk.okD e_all_rest = true := by decide +kernel
theorem od_is_brought : pk.okD e_is_brought = true := by decide +kernel
theorem od_is_history : pk.okD e_is_history = true := by decide +kernel
theorem od_in_hours : pk.okD e_in_hours = true := by decide +kernel
theorem od_is_row : pk.okD e_is_row = true := by decide +kernel
theorem od_is_out : pk.okD e_is_out = true := by decide +kernel
theorem od_is_table : pk.okD e_is_table = true := by decide +kernel
theorem od_Runner___init__ : pk.okD e_Runner___init__ = true := by decide +kernel
theorem od_Runner_beat : pk.okD e_Runner_beat = true := by decide +kernel
theorem od_Runner_holds_now : pk.okD e_Runner_holds_now = true := by decide +kernel
theorem od_is_text_of : pk.okD e_is_text_of = true := by decide +kernel
theorem od_is_fault : pk.okD e_is_fault = true := by decide +kernel
theorem od_are_faults : pk.okD e_are_faults = true := by decide +kernel
theorem od_is_opener : pk.okD e_is_opener = true := by decide +kernel
theorem od_are_openers : pk.okD e_are_openers = true := by decide +kernel
theorem od_all_so : pk.okD e_all_so = true := by decide +kernel
theorem od_is_spot : pk.okD e_is_spot = true := by decide +kernel
theorem od_goes_on : pk.okD e_goes_on = true := by decide +kernel
theorem od_is_heard : pk.okD e_is_heard = true := by decide +kernel
theorem od_beside : pk.okD e_beside = true := by decide +kernel
theorem od_is_of_fence : pk.okD e_is_of_fence = true := by decide +kernel
theorem od_is_shut : pk.okD e_is_shut = true := by decide +kernel
theorem od_is_still : pk.okD e_is_still = true := by decide +kernel
theorem od_are_spans : pk.okD e_are_spans = true := by decide +kernel
theorem od_are_fewest : pk.okD e_are_fewest = true := by decide +kernel
theorem od_is_entry : pk.okD e_is_entry = true := by decide +kernel
theorem od_is_log : pk.okD e_is_log = true := by decide +kernel
theorem od_are_joined : pk.okD e_are_joined = true := by decide +kernel
theorem od_are_said : pk.okD e_are_said = true := by decide +kernel
theorem od_holds : pk.okD e_holds = true := by decide +kernel
theorem od_law_bag : pk.okD e_law_bag = true := by decide +kernel
theorem od_law_take : pk.okD e_law_take = true := by decide +kernel
theorem od_law_entry : pk.okD e_law_entry = true := by decide +kernel
theorem od_law_odd : pk.okD e_law_odd = true := by decide +kernel
theorem od_law_is_log : pk.okD e_law_is_log = true := by decide +kernel
theorem od_law_copy : pk.okD e_law_copy = true := by decide +kernel
theorem od_law_due : pk.okD e_law_due = true := by decide +kernel
theorem od_law : pk.okD e_law = true := by decide +kernel
theorem al_nil {f : Dd → Bool} : ([] : List Dd).all f = true := rfl
theorem al_cons {f : Dd → Bool} {a : Dd} {l : List Dd} (h : f a = true) (k : l.all f = true) : (a :: l).all f = true := by rw [List.all_cons, h, k]; rfl
theorem od_all : pk.defs.all pk.okD = true := al_cons od_is_whole (al_cons od_is_name (al_cons od_rises (al_cons od_are_rising (al_cons od_are_whole (al_cons od_is_written (al_cons od_is_device (al_cons od_is_place (al_cons od_is_loop (al_cons od_is_zone (al_cons od_are_zones (al_cons od_is_plan (al_cons od_devices (al_cons od_stretches (al_cons od_openers (al_cons od_parts (al_cons od_told_twice (al_cons od_crowded (al_cons od_zone_at_odds (al_cons od_wrong (al_cons od_is_let_by (al_cons od_spur_come_to (al_cons od_come_to (al_cons od_steps_of (al_cons od_feels (al_cons od_all_rest (al_cons od_is_brought (al_cons od_is_history (al_cons od_in_hours (al_cons od_is_row (al_cons od_is_out (al_cons od_is_table (al_cons od_Runner___init__ (al_cons od_Runner_beat (al_cons od_Runner_holds_now (al_cons od_is_text_of (al_cons od_is_fault (al_cons od_are_faults (al_cons od_is_opener (al_cons od_are_openers (al_cons od_all_so (al_cons od_is_spot (al_cons od_goes_on (al_cons od_is_heard (al_cons od_beside (al_cons od_is_of_fence (al_cons od_is_shut (al_cons od_is_still (al_cons od_are_spans (al_cons od_are_fewest (al_cons od_is_entry (al_cons od_is_log (al_cons od_are_joined (al_cons od_are_said (al_cons od_holds (al_cons od_law_bag (al_cons od_law_take (al_cons od_law_entry (al_cons od_law_odd (al_cons od_law_is_log (al_cons od_law_copy (al_cons od_law_due (al_cons od_law (al_nil)))))))))))))))))))))))))))))))))))))))))))))))))))))))))))))))
theorem pk_ok : pk.ok = true := by
  unfold Pk.ok
  rw [od_all, Bool.and_true]
  decide +kernel
end Mn.K55
end

section
set_option autoImplicit false
set_option linter.all false
set_option maxRecDepth 100000
set_option maxHeartbeats 4000000
namespace Mn
@[simp] theorem w_var {g : Sg} {X : XD} {r : Env} {m : Hm} {P : PD} {i : Nat} : wpE g (.var i) X r m P = (∃ d, vget r i = some d ∧ P d m) := rfl
@[simp] theorem w_non {g : Sg} {X : XD} {r : Env} {m : Hm} {P : PD}  : wpE g (.non) X r m P = (P .non m) := rfl
@[simp] theorem w_bl {g : Sg} {X : XD} {r : Env} {m : Hm} {P : PD} {b : Bool} : wpE g (.bl b) X r m P = (P (.bl b) m) := rfl
@[simp] theorem w_num {g : Sg} {X : XD} {r : Env} {m : Hm} {P : PD} {i : Int} : wpE g (.num i) X r m P = (P (.int i) m) := rfl
@[simp] theorem w_txt {g : Sg} {X : XD} {r : Env} {m : Hm} {P : PD} {s : List Nat} : wpE g (.txt s) X r m P = (P (.str s) m) := rfl
@[simp] theorem w_glob {g : Sg} {X : XD} {r : Env} {m : Hm} {P : PD} {k : Nat} {d : D} : wpE g (.glob k d) X r m P = (P d m) := rfl
@[simp] theorem w_bin {g : Sg} {X : XD} {r : Env} {m : Hm} {P : PD} {op : Bop} {a c : E} : wpE g (.bin op a c) X r m P = (wpE g a X r m fun x m1 => wpE g c X r m1 fun y m2 => binW op x y m2 P) := rfl
@[simp] theorem w_neg {g : Sg} {X : XD} {r : Env} {m : Hm} {P : PD} {a : E} : wpE g (.neg a) X r m P = (wpE g a X r m fun x m1 => match x with | .int i => P (.int (-i)) m1 | _ => False) := rfl
@[simp] theorem w_cmp {g : Sg} {X : XD} {r : Env} {m : Hm} {P : PD} {op : Cop} {a c : E} : wpE g (.cmp op a c) X r m P = (wpE g a X r m fun x m1 => wpE g c X r m1 fun y m2 => cmpW op x y m2 P) := rfl
@[simp] theorem w_cmp2 {g : Sg} {X : XD} {r : Env} {m : Hm} {P : PD} {op op2 : Cop} {a c d : E} : wpE g (.cmp2 op op2 a c d) X r m P = (wpE g a X r m fun x m1 => wpE g c X r m1 fun y m2 => cmpW op x y m2 fun z m3 => match z with | .bl k => (if k = true then wpE g d X r m3 fun w m4 => cmpW op2 y w m4 P else P (.bl false) m3) | _ => False) := rfl
@[simp] theorem w_and {g : Sg} {X : XD} {r : Env} {m : Hm} {P : PD} {es : Es} : wpE g (.and_ es) X r m P = (wpAnd g es X r m P) := rfl
@[simp] theorem w_or {g : Sg} {X : XD} {r : Env} {m : Hm} {P : PD} {es : Es} : wpE g (.or_ es) X r m P = (wpOr g es X r m P) := rfl
@[simp] theorem w_not {g : Sg} {X : XD} {r : Env} {m : Hm} {P : PD} {a : E} : wpE g (.not_ a) X r m P = (wpE g a X r m fun x m1 => ∃ b, truth m1 x = some b ∧ P (.bl (!b)) m1) := rfl
@[simp] theorem w_ifx {g : Sg} {X : XD} {r : Env} {m : Hm} {P : PD} {t a c : E} : wpE g (.ifx t a c) X r m P = (wpE g t X r m fun x m1 => ∃ k, truth m1 x = some k ∧ if k = true then wpE g a X r m1 P else wpE g c X r m1 P) := rfl
@[simp] theorem w_call {g : Sg} {X : XD} {r : Env} {m : Hm} {P : PD} {f : Nat} {es : Es} : wpE g (.call f es) X r m P = (g.hs 0 f = true ∧ wpEs g es X r m fun ds m1 => g.C 0 f ds m1 P fun c m2 => X c r m2) := rfl
@[simp] theorem w_make {g : Sg} {X : XD} {r : Env} {m : Hm} {P : PD} {c : Nat} {es : Es} : wpE g (.make c es) X r m P = (g.hs c g.ini = true ∧ wpEs g es X r m fun ds m1 => ∀ p, m1 p = none → g.C c g.ini (.ref p :: ds) (up m1 p (.ins c [])) (fun d m2 => d = .non ∧ P (.ref p) m2) fun c m2 => X c r m2) := rfl
theorem w_bcall_ {g : Sg} {X : XD} {r : Env} {m : Hm} {P : PD} {f : Bf} {es : Es} : wpE g (.bcall f es) X r m P = (wpEs g es X r m fun ds m1 => (g.hx = none ∨ (f = .max ∧ ∃ xs, ds = [.tup xs])) ∧ bfW f ds m1 P) := rfl
@[simp] theorem w_bcall {t : Tab} {n : Nat} {X : XD} {r : Env} {m : Hm} {P : PD} {f : Bf} {es : Es} : wpE (sg t n) (.bcall f es) X r m P = (wpEs (sg t n) es X r m fun ds m1 => bfW f ds m1 P) := by
  rw [w_bcall_]
  congr 1
  funext ds m1
  rw [show (sg t n).hx = none from rfl]
  simp
@[simp] theorem w_bcallH {t : Tab} {n : Nat} {h : Nat × Nat} {X : XD} {r : Env} {m : Hm} {P : PD} {f : Bf} {es : Es} : wpE (sgH t n h) (.bcall f es) X r m P = (wpEs (sgH t n h) es X r m fun ds m1 => (f = .max ∧ ∃ xs, ds = [.tup xs]) ∧ bfW f ds m1 P) := by
  rw [w_bcall_]
  congr 1
  funext ds m1
  rw [show (sgH t n h).hx = some h from rfl]
  simp
@[simp] theorem w_bmeth {g : Sg} {X : XD} {r : Env} {m : Hm} {P : PD} {f : Bm} {o : E} {es : Es} : wpE g (.bmeth f o es) X r m P = (wpE g o X r m fun x m1 => mok f (rk m1 x) = true ∧ wpEs g es X r m1 fun ds m2 => rk m2 x = rk m1 x ∧ bmW f x ds m2 P) := rfl
@[simp] theorem w_isin {g : Sg} {X : XD} {r : Env} {m : Hm} {P : PD} {a : E} {ts : List Ty} : wpE g (.isin a ts) X r m P = (wpE g a X r m fun x m1 => ∃ b, isT g m1 x ts = some b ∧ P (.bl b) m1) := rfl
@[simp] theorem w_idx {g : Sg} {X : XD} {r : Env} {m : Hm} {P : PD} {a i : E} : wpE g (.idx a i) X r m P = (wpE g a X r m fun x m1 => wpE g i X r m1 fun y m2 => ixW x y m2 P) := rfl
@[simp] theorem w_slc {g : Sg} {X : XD} {r : Env} {m : Hm} {P : PD} {a : E} {lo hi : O} : wpE g (.slc a lo hi) X r m P = (wpE g a X r m fun x m1 => wpO g lo X r m1 fun l m2 => wpO g hi X r m2 fun h m3 => slW x l h m3 P) := rfl
@[simp] theorem w_rev {g : Sg} {X : XD} {r : Env} {m : Hm} {P : PD} {a : E} : wpE g (.rev a) X r m P = (wpE g a X r m fun x m1 => revW x m1 P) := rfl
@[simp] theorem w_tup {g : Sg} {X : XD} {r : Env} {m : Hm} {P : PD} {es : Es} : wpE g (.tup es) X r m P = (wpEs g es X r m fun ds m1 => P (.tup ds) m1) := rfl
@[simp] theorem w_lst {g : Sg} {X : XD} {r : Env} {m : Hm} {P : PD} {es : Es} : wpE g (.lst es) X r m P = (wpEs g es X r m fun ds m1 => ∀ p, m1 p = none → P (.ref p) (up m1 p (.lst ds))) := rfl
@[simp] theorem w_dctK {g : Sg} {X : XD} {r : Env} {m : Hm} {P : PD}  : wpE g (.dctK) X r m P = (∀ p, m p = none → P (.ref p) (up m p (.dK []))) := rfl
@[simp] theorem w_lenS {g : Sg} {X : XD} {r : Env} {m : Hm} {P : PD} {e : E} : wpE g (.lenS e) X r m P = (wpE g e X r m fun x m1 => match x with | .ref a => ∃ ds ks, m1 a = some (.lst ds) ∧ kysOf ds = some ks ∧ ks.length ≤ 4000 ∧ P (.int ((unlL ks).length : Nat)) m1 | _ => False) := rfl
@[simp] theorem w_attr {g : Sg} {X : XD} {r : Env} {m : Hm} {P : PD} {f : Nat} {o : E} : wpE g (.attr f o) X r m P = (wpE g o X r m fun x m1 => match x with | .ref a => ∃ c fs d, m1 a = some (.ins c fs) ∧ fget fs f = some d ∧ P d m1 | _ => False) := rfl
@[simp] theorem w_meth {g : Sg} {X : XD} {r : Env} {m : Hm} {P : PD} {k : Nat} {o : E} {es : Es} : wpE g (.meth k o es) X r m P = (wpE g o X r m fun x m1 => match x with | .ref a => ∃ c fs, m1 a = some (.ins c fs) ∧ fget fs k = none ∧ g.hs c k = true ∧ wpEs g es X r m1 fun ds m2 => g.C c k (x :: ds) m2 P fun c m2 => X c r m2 | _ => False) := rfl
@[simp] theorem w_compN {g : Sg} {X : XD} {r : Env} {m : Hm} {P : PD} {elt : E} {tg : T} {it : I} {own : List Nat} : wpE g (.comp elt tg it .no own) X r m P = (wpI g it X r m fun xs st m1 => ∀ p, m1 p = none → compW p st (fun x m2 Q1 Q2 => wpT g tg x XF (wipe r own) m2 fun r3 m3 => wpE g elt XF r3 m3 Q1) (fun m2 => P (.ref p) m2) xs (up m1 p (.lst []))) := rfl
@[simp] theorem w_compY {g : Sg} {X : XD} {r : Env} {m : Hm} {P : PD} {elt c : E} {tg : T} {it : I} {own : List Nat} : wpE g (.comp elt tg it (.yes c) own) X r m P = (wpI g it X r m fun xs st m1 => ∀ p, m1 p = none → compW p st (fun x m2 Q1 Q2 => wpT g tg x XF (wipe r own) m2 fun r3 m3 => wpE g c XF r3 m3 fun y m4 => ∃ b, truth m4 y = some b ∧ if b = true then wpE g elt XF r3 m4 Q1 else Q2 m4) (fun m2 => P (.ref p) m2) xs (up m1 p (.lst []))) := rfl
@[simp] theorem w_nil {g : Sg} {X : XD} {r : Env} {m : Hm} {P : List D → Hm → Prop} : wpEs g .nil X r m P = P [] m := rfl
@[simp] theorem w_cons {g : Sg} {X : XD} {r : Env} {m : Hm} {P : List D → Hm → Prop} {e : E} {es : Es} : wpEs g (.cons e es) X r m P = (wpE g e X r m fun d m1 => wpEs g es X r m1 fun ds m2 => P (d :: ds) m2) := rfl
@[simp] theorem w_and1 {g : Sg} {X : XD} {r : Env} {m : Hm} {P : PD} {e : E} : wpAnd g (.cons e .nil) X r m P = wpE g e X r m P := rfl
@[simp] theorem w_and2 {g : Sg} {X : XD} {r : Env} {m : Hm} {P : PD} {e e2 : E} {es : Es} : wpAnd g (.cons e (.cons e2 es)) X r m P = (wpE g e X r m fun x m1 => ∃ b, truth m1 x = some b ∧ if b = true then wpAnd g (.cons e2 es) X r m1 P else P x m1) := rfl
@[simp] theorem w_or1 {g : Sg} {X : XD} {r : Env} {m : Hm} {P : PD} {e : E} : wpOr g (.cons e .nil) X r m P = wpE g e X r m P := rfl
@[simp] theorem w_or2 {g : Sg} {X : XD} {r : Env} {m : Hm} {P : PD} {e e2 : E} {es : Es} : wpOr g (.cons e (.cons e2 es)) X r m P = (wpE g e X r m fun x m1 => ∃ b, truth m1 x = some b ∧ if b = true then P x m1 else wpOr g (.cons e2 es) X r m1 P) := rfl
@[simp] theorem w_ono {g : Sg} {X : XD} {r : Env} {m : Hm} {P : Option Int → Hm → Prop} : wpO g .no X r m P = P none m := rfl
@[simp] theorem w_oyes {g : Sg} {X : XD} {r : Env} {m : Hm} {P : Option Int → Hm → Prop} {e : E} : wpO g (.yes e) X r m P = (wpE g e X r m fun x m1 => match x with | .int i => P (some i) m1 | _ => False) := rfl
@[simp] theorem w_ival {g : Sg} {X : XD} {r : Env} {m : Hm} {K : List D → (Hm → Prop) → Hm → Prop} {e : E} : wpI g (.val e) X r m K = wpE g e X r m fun d m1 => walkV d m1 K := rfl
@[simp] theorem w_irng {g : Sg} {X : XD} {r : Env} {m : Hm} {K : List D → (Hm → Prop) → Hm → Prop} {es : Es} : wpI g (.rng es) X r m K = wpEs g es X r m fun ds m1 => rngW ds m1 K := rfl
@[simp] theorem w_ienum {g : Sg} {X : XD} {r : Env} {m : Hm} {K : List D → (Hm → Prop) → Hm → Prop} {e : E} : wpI g (.enum e) X r m K = (wpE g e X r m fun d m1 => match d with | .str _ => False | _ => walkV d m1 fun xs st m2 => K (enumD 0 xs) st m2) := rfl
@[simp] theorem w_izip {g : Sg} {X : XD} {r : Env} {m : Hm} {K : List D → (Hm → Prop) → Hm → Prop} {a c : E} : wpI g (.zip a c) X r m K = (wpE g a X r m fun x m1 => wpE g c X r m1 fun y m2 => ∃ xs s1 ys s2, zsrc m2 x = some (xs, s1) ∧ zsrc m2 y = some (ys, s2) ∧ K (zipD xs ys) (fun m3 => s1 m3 ∧ s2 m3) m2) := rfl
@[simp] theorem w_nm {g : Sg} {X : XD} {r : Env} {m : Hm} {Q : Env → Hm → Prop} {i : Nat} {d : D} : wpT g (.nm i) d X r m Q = Q (r.set i (some d)) m := rfl
@[simp] theorem w_tp {g : Sg} {X : XD} {r : Env} {m : Hm} {Q : Env → Hm → Prop} {ts : Ts} {ds : List D} : wpT g (.tp ts) (.tup ds) X r m Q = (ds.length = lenT ts ∧ wpTs g ts ds X r m Q) := rfl
@[simp] theorem w_at {g : Sg} {X : XD} {r : Env} {m : Hm} {Q : Env → Hm → Prop} {f : Nat} {o : E} {d : D} : wpT g (.at_ f o) d X r m Q = wpE g o X r m fun x m1 => match x with | .ref a => ∃ c fs, m1 a = some (.ins c fs) ∧ g.fld c f = true ∧ fs.length < 1000 ∧ Q r (up m1 a (.ins c (fput fs f d))) | _ => False := rfl
@[simp] theorem w_sb {g : Sg} {X : XD} {r : Env} {m : Hm} {Q : Env → Hm → Prop} {o i : E} {d : D} : wpT g (.sb o i) d X r m Q = wpE g o X r m fun x m1 => wpE g i X r m1 fun y m2 => setW x y d m2 fun m3 => Q r m3 := rfl
@[simp] theorem w_tnil {g : Sg} {X : XD} {r : Env} {m : Hm} {Q : Env → Hm → Prop} : wpTs g .nil [] X r m Q = Q r m := rfl
@[simp] theorem w_tcons {g : Sg} {X : XD} {r : Env} {m : Hm} {Q : Env → Hm → Prop} {t : T} {ts : Ts} {d : D} {ds : List D} : wpTs g (.cons t ts) (d :: ds) X r m Q = wpT g t d X r m fun r1 m1 => wpTs g ts ds X r1 m1 Q := rfl
@[simp] theorem w_pass {g : Sg} {X : XD} {r : Env} {m : Hm} {Q : K}  : wpS g X (.pass) r m Q = (Q.nx r m) := rfl
@[simp] theorem w_ex {g : Sg} {X : XD} {r : Env} {m : Hm} {Q : K} {e : E} : wpS g X (.ex e) r m Q = (wpE g e X r m fun _ m1 => Q.nx r m1) := rfl
@[simp] theorem w_asg {g : Sg} {X : XD} {r : Env} {m : Hm} {Q : K} {t : T} {e : E} : wpS g X (.asg t e) r m Q = (wpE g e X r m fun d m1 => wpT g t d X r m1 Q.nx) := rfl
@[simp] theorem w_augn {g : Sg} {X : XD} {r : Env} {m : Hm} {Q : K} {i : Nat} {op : Bop} {e : E} : wpS g X (.aug (.nm i) op e) r m Q = (∃ x, vget r i = some x ∧ wpE g e X r m fun y m1 => augW op x y fun z => Q.nx (r.set i (some z)) m1) := rfl
@[simp] theorem w_auga {g : Sg} {X : XD} {r : Env} {m : Hm} {Q : K} {f : Nat} {o e : E} {op : Bop} : wpS g X (.aug (.at_ f o) op e) r m Q = (wpE g o X r m fun x m1 => match x with | .ref a => ∃ c fs d, m1 a = some (.ins c fs) ∧ fget fs f = some d ∧ wpE g e X r m1 fun y m2 => augW op d y fun z => ∃ fs2, m2 a = some (.ins c fs2) ∧ fs2.length < 1000 ∧ Q.nx r (up m2 a (.ins c (fput fs2 f z))) | _ => False) := rfl
@[simp] theorem w_ife {g : Sg} {X : XD} {r : Env} {m : Hm} {Q : K} {c : E} {a b : Ss} : wpS g X (.ife c a b) r m Q = (wpE g c X r m fun x m1 => ∃ k, truth m1 x = some k ∧ if k = true then wpSs g X a r m1 Q else wpSs g X b r m1 Q) := rfl
@[simp] theorem w_fr {g : Sg} {X : XD} {r : Env} {m : Hm} {Q : K} {t : T} {it : I} {b : Ss} : wpS g X (.fr t it b) r m Q = (wpI g it X r m fun xs st m1 => loopW st (fun x r2 m2 nx => wpT g t x X r2 m2 fun r3 m3 => wpSs g X b r3 m3 ⟨nx, Q.rt, Q.nx, nx⟩) Q.nx xs r m1) := rfl
@[simp] theorem w_whl {g : Sg} {X : XD} {r : Env} {m : Hm} {Q : K} {c : E} {b : Ss} : wpS g X (.whl c b) r m Q = (∃ n, whileW (testW g c X) (fun r2 m2 nx => wpSs g X b r2 m2 ⟨nx, Q.rt, Q.nx, nx⟩) Q.nx n r m) := rfl
@[simp] theorem w_brk {g : Sg} {X : XD} {r : Env} {m : Hm} {Q : K}  : wpS g X (.brk) r m Q = (Q.bk r m) := rfl
@[simp] theorem w_cnt {g : Sg} {X : XD} {r : Env} {m : Hm} {Q : K}  : wpS g X (.cnt) r m Q = (Q.ct r m) := rfl
@[simp] theorem w_ret {g : Sg} {X : XD} {r : Env} {m : Hm} {Q : K} {e : E} : wpS g X (.ret e) r m Q = (wpE g e X r m Q.rt) := rfl
@[simp] theorem w_ret0 {g : Sg} {X : XD} {r : Env} {m : Hm} {Q : K}  : wpS g X (.ret0) r m Q = (Q.rt .non m) := rfl
@[simp] theorem w_snil {g : Sg} {X : XD} {r : Env} {m : Hm} {Q : K} : wpSs g X .nil r m Q = Q.nx r m := rfl
@[simp] theorem w_scons {g : Sg} {X : XD} {r : Env} {m : Hm} {Q : K} {s : S} {ss : Ss} : wpSs g X (.cons s ss) r m Q = wpS g X s r m ⟨fun r1 m1 => wpSs g X ss r1 m1 Q, Q.rt, Q.bk, Q.ct⟩ := rfl
@[simp] theorem b_add {m : Hm} {P : PD} {i j : Int} : binW .add (.int i) (.int j) m P = P (.int (i + j)) m := rfl
@[simp] theorem b_sub {m : Hm} {P : PD} {i j : Int} : binW .sub (.int i) (.int j) m P = P (.int (i - j)) m := rfl
@[simp] theorem b_mul {m : Hm} {P : PD} {i j : Int} : binW .mul (.int i) (.int j) m P = (mulOk i j = true ∧ P (.int (i * j)) m) := rfl
@[simp] theorem b_fdiv {m : Hm} {P : PD} {i j : Int} : binW .fdiv (.int i) (.int j) m P = ((j ≠ 0 ∧ (j.natAbs < 1073741824 ∨ (0 < j ∧ j.natAbs.log2 < 9000))) ∧ P (.int (i.fdiv j)) m) := rfl
@[simp] theorem b_mod {m : Hm} {P : PD} {i j : Int} : binW .mod (.int i) (.int j) m P = (j ≠ 0 ∧ P (.int (i.fmod j)) m) := rfl
@[simp] theorem b_pow {m : Hm} {P : PD} {i j : Int} : binW .pow (.int i) (.int j) m P = ((0 ≤ j ∧ j ≤ 1000000 ∧ i.natAbs < 2 ^ 64) ∧ P (.int (i ^ j.toNat)) m) := rfl
@[simp] theorem b_tadd {m : Hm} {P : PD} {a c : List D} : binW .add (.tup a) (.tup c) m P = (a.length + c.length ≤ SZ ∧ P (.tup (a ++ c)) m) := rfl
@[simp] theorem b_sadd {m : Hm} {P : PD} {s t : List Nat} : binW .add (.str s) (.str t) m P = (s.length + t.length ≤ SZ ∧ P (.str (s ++ t)) m) := rfl
@[simp] theorem c_lt {m : Hm} {P : PD} {i j : Int} : cmpW .lt (.int i) (.int j) m P = P (.bl (decide (i < j))) m := rfl
@[simp] theorem c_le {m : Hm} {P : PD} {i j : Int} : cmpW .le (.int i) (.int j) m P = P (.bl (decide (i ≤ j))) m := rfl
@[simp] theorem c_gt {m : Hm} {P : PD} {i j : Int} : cmpW .gt (.int i) (.int j) m P = P (.bl (decide (j < i))) m := rfl
@[simp] theorem c_ge {m : Hm} {P : PD} {i j : Int} : cmpW .ge (.int i) (.int j) m P = P (.bl (decide (j ≤ i))) m := rfl
@[simp] theorem c_eq {m : Hm} {P : PD} {i j : Int} : cmpW .eq (.int i) (.int j) m P = P (.bl (decide (i = j))) m := by show P (.bl (xor false (i == j))) m = _; simp [Bool.beq_eq_decide_eq]
@[simp] theorem c_ne {m : Hm} {P : PD} {i j : Int} : cmpW .ne (.int i) (.int j) m P = P (.bl (!decide (i = j))) m := by show P (.bl (xor true (i == j))) m = _; simp [Bool.beq_eq_decide_eq]
@[simp] theorem c_seq {m : Hm} {P : PD} {s t : List Nat} : cmpW .eq (.str s) (.str t) m P = P (.bl (decide (s = t))) m := by show P (.bl (xor false (s == t))) m = _; simp [Bool.beq_eq_decide_eq]
@[simp] theorem c_sne {m : Hm} {P : PD} {s t : List Nat} : cmpW .ne (.str s) (.str t) m P = P (.bl (!decide (s = t))) m := by show P (.bl (xor true (s == t))) m = _; simp [Bool.beq_eq_decide_eq]
@[simp] theorem c_isb {m : Hm} {P : PD} {a c : Bool} : cmpW .is_ (.bl a) (.bl c) m P = P (.bl (a == c)) m := by show P (.bl (xor false (a == c))) m = _; simp
@[simp] theorem c_isnb {m : Hm} {P : PD} {a c : Bool} : cmpW .isn (.bl a) (.bl c) m P = P (.bl (!(a == c))) m := by show P (.bl (xor true (a == c))) m = _; simp
@[simp] theorem t_bl {m : Hm} {b : Bool} : truth m (.bl b) = some b := rfl
@[simp] theorem t_non {m : Hm} : truth m .non = some false := rfl
@[simp] theorem t_int {m : Hm} {i : Int} : truth m (.int i) = some (i != 0) := rfl
@[simp] theorem t_tup {m : Hm} {ds : List D} : truth m (.tup ds) = some (!ds.isEmpty) := rfl
@[simp] theorem x_tup {m : Hm} {P : PD} {ds : List D} {i : Int} : ixW (.tup ds) (.int i) m P = ∃ d, atI ds i = some d ∧ P d m := rfl
@[simp] theorem x_lst {m : Hm} {P : PD} {ds : List D} {i : Int} : ixW (.lst ds) (.int i) m P = ∃ d, atI ds i = some d ∧ P d m := rfl
@[simp] theorem y_int {m : Hm} {i : Int} {t : Ty} : tyAny m (.int i) [t] = some (match t with | .int => true | _ => false) := by cases t <;> rfl
@[simp] theorem y_bl {m : Hm} {b : Bool} {t : Ty} : tyAny m (.bl b) [t] = some (match t with | .int => true | .bool => true | _ => false) := by cases t <;> rfl
@[simp] theorem y_str {m : Hm} {s : List Nat} {t : Ty} : tyAny m (.str s) [t] = some (match t with | .str => true | _ => false) := by cases t <;> rfl
@[simp] theorem y_non {m : Hm} {t : Ty} : tyAny m .non [t] = some false := rfl
@[simp] theorem y_tup {m : Hm} {ds : List D} {t : Ty} : tyAny m (.tup ds) [t] = some (match t with | .tuple => true | _ => false) := by cases t <;> rfl
@[simp] theorem y_lst {m : Hm} {ds : List D} {t : Ty} : tyAny m (.lst ds) [t] = some (match t with | .list => true | _ => false) := by cases t <;> rfl
@[simp] theorem y_ref {m : Hm} {a : Nat} {ds : List D} {t : Ty} (h : m a = some (.lst ds)) : tyAny m (.ref a) [t] = some (match t with | .list => true | _ => false) := by simp only [tyAny, tyIs, h]; cases t <;> rfl
@[simp] theorem f_ltup {m : Hm} {P : PD} {ds : List D} : bfW .len [.tup ds] m P = P (.int ds.length) m := rfl
@[simp] theorem f_llst {m : Hm} {P : PD} {ds : List D} : bfW .len [.lst ds] m P = P (.int ds.length) m := rfl
@[simp] theorem f_abs {m : Hm} {P : PD} {i : Int} : bfW .abs [.int i] m P = P (.int (if i < 0 then -i else i)) m := rfl
@[simp] theorem f_inti {m : Hm} {P : PD} {i : Int} : bfW .int [.int i] m P = P (.int i) m := rfl
@[simp] theorem f_intb {m : Hm} {P : PD} {b : Bool} : bfW .int [.bl b] m P = P (.int (if b then 1 else 0)) m := rfl
@[simp] theorem f_min {m : Hm} {P : PD} {i j : Int} : bfW .min [.int i, .int j] m P = P (.int (if j < i then j else i)) m := rfl
@[simp] theorem f_max {m : Hm} {P : PD} {i j : Int} : bfW .max [.int i, .int j] m P = P (.int (if j > i then j else i)) m := rfl
@[simp] theorem v_z {o : Option D} {r : Env} : vget (o :: r) 0 = o := rfl
@[simp] theorem v_s {o : Option D} {r : Env} {n : Nat} : vget (o :: r) (n + 1) = vget r n := rfl
@[simp] theorem v_1 {o : Option D} {r : Env} : vget (o :: r) 1 = vget r 0 := rfl
@[simp] theorem v_2 {o : Option D} {r : Env} : vget (o :: r) 2 = vget r 1 := rfl
@[simp] theorem v_3 {o : Option D} {r : Env} : vget (o :: r) 3 = vget r 2 := rfl
@[simp] theorem v_4 {o : Option D} {r : Env} : vget (o :: r) 4 = vget r 3 := rfl
@[simp] theorem v_5 {o : Option D} {r : Env} : vget (o :: r) 5 = vget r 4 := rfl
@[simp] theorem v_6 {o : Option D} {r : Env} : vget (o :: r) 6 = vget r 5 := rfl
@[simp] theorem v_7 {o : Option D} {r : Env} : vget (o :: r) 7 = vget r 6 := rfl
@[simp] theorem v_8 {o : Option D} {r : Env} : vget (o :: r) 8 = vget r 7 := rfl
@[simp] theorem v_9 {o : Option D} {r : Env} : vget (o :: r) 9 = vget r 8 := rfl
@[simp] theorem v_10 {o : Option D} {r : Env} : vget (o :: r) 10 = vget r 9 := rfl
@[simp] theorem v_11 {o : Option D} {r : Env} : vget (o :: r) 11 = vget r 10 := rfl
@[simp] theorem v_12 {o : Option D} {r : Env} : vget (o :: r) 12 = vget r 11 := rfl
@[simp] theorem v_13 {o : Option D} {r : Env} : vget (o :: r) 13 = vget r 12 := rfl
@[simp] theorem v_14 {o : Option D} {r : Env} : vget (o :: r) 14 = vget r 13 := rfl
@[simp] theorem v_15 {o : Option D} {r : Env} : vget (o :: r) 15 = vget r 14 := rfl
@[simp] theorem isT_int {g : Sg} {m : Hm} {x : D} : isT g m x [.int] = tyAny m x [.int] := rfl
@[simp] theorem isT_bool {g : Sg} {m : Hm} {x : D} : isT g m x [.bool] = tyAny m x [.bool] := rfl
@[simp] theorem isT_str {g : Sg} {m : Hm} {x : D} : isT g m x [.str] = tyAny m x [.str] := rfl
@[simp] theorem isT_tuple {g : Sg} {m : Hm} {x : D} : isT g m x [.tuple] = tyAny m x [.tuple] := rfl
@[simp] theorem isT_list {g : Sg} {m : Hm} {x : D} : isT g m x [.list] = tyAny m x [.list] := rfl
@[simp] theorem isT_dict {g : Sg} {m : Hm} {x : D} : isT g m x [.dict] = tyAny m x [.dict] := rfl
theorem isT_own {g : Sg} {m : Hm} {a c k : Nat} (h : g.hx = some (a, c)) : isT g m (.exc a c) [.own k] = some (g.sub c k) := by simp only [isT]; rw [if_pos h]
theorem isT_verr {g : Sg} {m : Hm} {a c : Nat} (h : g.hx = some (a, c)) : isT g m (.exc a c) [.verr] = some true := by simp only [isT]; rw [if_pos h]
@[simp] theorem w_fus {g : Sg} {X : XD} {r : Env} {m : Hm} {P : PD} {f : Fu} {es : Es} : wpE g (.fus f es) X r m P = (wpEs g es X r m fun ds m1 => fuW f ds m1 P) := rfl
@[simp] theorem w_rais {g : Sg} {X : XD} {r : Env} {m : Hm} {Q : K} {c : Nat} : wpS g X (.rais c) r m Q = (g.ex c = true ∧ X c r m) := rfl
@[simp] theorem v_16 {o : Option D} {r : Env} : vget (o :: r) 16 = vget r 15 := rfl
@[simp] theorem v_17 {o : Option D} {r : Env} : vget (o :: r) 17 = vget r 16 := rfl
@[simp] theorem v_18 {o : Option D} {r : Env} : vget (o :: r) 18 = vget r 17 := rfl
@[simp] theorem v_19 {o : Option D} {r : Env} : vget (o :: r) 19 = vget r 18 := rfl
@[simp] theorem v_20 {o : Option D} {r : Env} : vget (o :: r) 20 = vget r 19 := rfl
@[simp] theorem v_21 {o : Option D} {r : Env} : vget (o :: r) 21 = vget r 20 := rfl
@[simp] theorem v_22 {o : Option D} {r : Env} : vget (o :: r) 22 = vget r 21 := rfl
@[simp] theorem v_23 {o : Option D} {r : Env} : vget (o :: r) 23 = vget r 22 := rfl
@[simp] theorem v_24 {o : Option D} {r : Env} : vget (o :: r) 24 = vget r 23 := rfl
@[simp] theorem v_25 {o : Option D} {r : Env} : vget (o :: r) 25 = vget r 24 := rfl
@[simp] theorem v_26 {o : Option D} {r : Env} : vget (o :: r) 26 = vget r 25 := rfl
@[simp] theorem v_27 {o : Option D} {r : Env} : vget (o :: r) 27 = vget r 26 := rfl
@[simp] theorem v_28 {o : Option D} {r : Env} : vget (o :: r) 28 = vget r 27 := rfl
@[simp] theorem v_29 {o : Option D} {r : Env} : vget (o :: r) 29 = vget r 28 := rfl
@[simp] theorem v_30 {o : Option D} {r : Env} : vget (o :: r) 30 = vget r 29 := rfl
@[simp] theorem v_31 {o : Option D} {r : Env} : vget (o :: r) 31 = vget r 30 := rfl
@[simp] theorem v_32 {o : Option D} {r : Env} : vget (o :: r) 32 = vget r 31 := rfl
@[simp] theorem v_33 {o : Option D} {r : Env} : vget (o :: r) 33 = vget r 32 := rfl
@[simp] theorem v_34 {o : Option D} {r : Env} : vget (o :: r) 34 = vget r 33 := rfl
@[simp] theorem v_35 {o : Option D} {r : Env} : vget (o :: r) 35 = vget r 34 := rfl
@[simp] theorem v_36 {o : Option D} {r : Env} : vget (o :: r) 36 = vget r 35 := rfl
@[simp] theorem v_37 {o : Option D} {r : Env} : vget (o :: r) 37 = vget r 36 := rfl
@[simp] theorem v_38 {o : Option D} {r : Env} : vget (o :: r) 38 = vget r 37 := rfl
@[simp] theorem v_39 {o : Option D} {r : Env} : vget (o :: r) 39 = vget r 38 := rfl
@[simp] theorem v_40 {o : Option D} {r : Env} : vget (o :: r) 40 = vget r 39 := rfl
@[simp] theorem aug_add {i j : Int} {P : D → Prop} : augW .add (.int i) (.int j) P = P (.int (i + j)) := rfl
@[simp] theorem aug_sub {i j : Int} {P : D → Prop} : augW .sub (.int i) (.int j) P = P (.int (i - j)) := rfl
@[simp] theorem c_isn {m : Hm} {P : PD} : cmpW .is_ .non .non m P = P (.bl true) m := rfl
@[simp] theorem c_isi {m : Hm} {P : PD} {i : Int} : cmpW .is_ (.int i) .non m P = P (.bl false) m := rfl
@[simp] theorem c_isnn {m : Hm} {P : PD} : cmpW .isn .non .non m P = P (.bl false) m := rfl
@[simp] theorem c_isni {m : Hm} {P : PD} {i : Int} : cmpW .isn (.int i) .non m P = P (.bl true) m := rfl
@[simp] theorem w_jnil {g : Sg} {X : XD} {r : Env} {m : Hm} {P : PD} {acc : List Nat} : wpJ g .nil acc X r m P = P (.str acc) m := rfl
@[simp] theorem w_jcons {g : Sg} {X : XD} {r : Env} {m : Hm} {P : PD} {acc : List Nat} {e : E} {es : Es} : wpJ g (.cons e es) acc X r m P = (wpE g e X r m fun d m1 => ∃ s, fmtD d = some s ∧ acc.length + s.length ≤ SZ ∧ wpJ g es (acc ++ s) X r m1 P) := rfl
theorem fz_none {m : Hm} {a p : Nat} {x o : MO} (h : m a = some x) : up m a o p = none ↔ m p = none := by
  unfold up
  by_cases e : p = a
  · rw [if_pos e, e, h]
    simp
  · rw [if_neg e]
@[simp high] theorem w_compDN {g : Sg} {X : XD} {r : Env} {m : Hm} {P : PD} {elt : E} {tg : T} {i : Nat} {own : List Nat} : wpE g (.compD elt tg (.var i) .no own) X r m P = (∃ a kvs, vget r i = some (.ref a) ∧ m a = some (.dK kvs) ∧ ∀ p, m p = none → compW p (fun _ => True) (fun x m2 Q1 Q2 => wpT g tg x XF (wipe r own) m2 fun r3 m3 => wpE g elt XF r3 m3 Q1) (fun m2 => P (.ref p) (up m2 a (.dK kvs))) (kvs.map fun kv => dOf kv.1) (up (up m a (.fz kvs)) p (.lst []))) := by
  apply propext
  show (∃ a kvs, m a = some (.dK kvs) ∧ ∃ d, vget r i = some d ∧ d = .ref a ∧ up m a (.fz kvs) a = some (.fz kvs) ∧ ∀ p, up m a (.fz kvs) p = none → _) ↔ _
  exact ⟨fun ⟨a, kvs, h1, d, h2, h3, h4, h5⟩ => ⟨a, kvs, by rw [← h3]; exact h2, h1, fun p hp => h5 p ((fz_none h1).mpr hp)⟩, fun ⟨a, kvs, h1, h2, h3⟩ => ⟨a, kvs, h2, .ref a, h1, rfl, by unfold up; rw [if_pos rfl], fun p hp => h3 p ((fz_none h2).mp hp)⟩⟩
@[simp high] theorem w_compDY {g : Sg} {X : XD} {r : Env} {m : Hm} {P : PD} {elt c : E} {tg : T} {i : Nat} {own : List Nat} : wpE g (.compD elt tg (.var i) (.yes c) own) X r m P = (∃ a kvs, vget r i = some (.ref a) ∧ m a = some (.dK kvs) ∧ ∀ p, m p = none → compW p (fun _ => True) (fun x m2 Q1 Q2 => wpT g tg x XF (wipe r own) m2 fun r3 m3 => wpE g c XF r3 m3 fun y m4 => ∃ b, truth m4 y = some b ∧ if b = true then wpE g elt XF r3 m4 Q1 else Q2 m4) (fun m2 => P (.ref p) (up m2 a (.dK kvs))) (kvs.map fun kv => dOf kv.1) (up (up m a (.fz kvs)) p (.lst []))) := by
  apply propext
  show (∃ a kvs, m a = some (.dK kvs) ∧ ∃ d, vget r i = some d ∧ d = .ref a ∧ up m a (.fz kvs) a = some (.fz kvs) ∧ ∀ p, up m a (.fz kvs) p = none → _) ↔ _
  exact ⟨fun ⟨a, kvs, h1, d, h2, h3, h4, h5⟩ => ⟨a, kvs, by rw [← h3]; exact h2, h1, fun p hp => h5 p ((fz_none h1).mpr hp)⟩, fun ⟨a, kvs, h1, h2, h3⟩ => ⟨a, kvs, h2, .ref a, h1, rfl, by unfold up; rw [if_pos rfl], fun p hp => h3 p ((fz_none h2).mp hp)⟩⟩
@[simp] theorem b_addbi {m : Hm} {P : PD} {b : Bool} {j : Int} : binW .add (.bl b) (.int j) m P = P (.int ((if b then 1 else 0) + j)) m := rfl
@[simp] theorem b_addib {m : Hm} {P : PD} {b : Bool} {i : Int} : binW .add (.int i) (.bl b) m P = P (.int (i + (if b then 1 else 0))) m := rfl
@[simp] theorem b_subbi {m : Hm} {P : PD} {b : Bool} {j : Int} : binW .sub (.bl b) (.int j) m P = P (.int ((if b then 1 else 0) - j)) m := rfl
@[simp] theorem f_strs {m : Hm} {P : PD} {s : List Nat} : bfW .str [.str s] m P = P (.str s) m := rfl
@[simp] theorem f_strb {m : Hm} {P : PD} {b : Bool} : bfW .str [.bl b] m P = P (.str (boolT b)) m := rfl
@[simp] theorem f_ints {m : Hm} {P : PD} {s : List Nat} : bfW .int [.str s] m P = (∃ n, numT s = some n ∧ P (.int n) m) := rfl
@[simp] theorem m_upper {m : Hm} {P : PD} {s : List Nat} : bmW .upper (.str s) [] m P = ((s.all (· < 128) = true ∧ s.length ≤ 5592405) ∧ P (.str (s.map upC)) m) := rfl
@[simp] theorem m_part {m : Hm} {P : PD} {s t : List Nat} : bmW .partition (.str s) [.str t] m P = ((t ≠ [] ∧ s.length ≤ SZ) ∧ P (.tup (par3 s t)) m) := rfl
@[simp] theorem m_split {m : Hm} {P : PD} {s t : List Nat} : bmW .split (.str s) [.str t] m P = ((t ≠ [] ∧ t.all (· < 256) = true ∧ s.length + 2 ≤ SZ) ∧ ∀ p, m p = none → P (.ref p) (up m p (.lst ((splT t 0 [] s).map .str)))) := rfl
@[simp] theorem m_starts {m : Hm} {P : PD} {s t : List Nat} : bmW .startswith (.str s) [.str t] m P = P (.bl (preT t s)) m := rfl
end Mn
end

section
set_option autoImplicit false
set_option linter.all false
set_option maxRecDepth 100000
set_option maxHeartbeats 4000000
namespace Mn
@[simp] theorem up_at {m : Hm} {p : Nat} {o : MO} : up m p o p = some o := by unfold up; rw [if_pos rfl]
theorem up_off {m : Hm} {p a : Nat} {o : MO} (h : a ≠ p) : up m p o a = m a := by unfold up; rw [if_neg h]
theorem x_ref {m : Hm} {P : PD} {a : Nat} {xs : List D} {i : Int} (h : m a = some (.lst xs)) : ixW (.ref a) (.int i) m P = ∃ d, atI xs i = some d ∧ P d m := by
  show (match m a with | some (.lst xs) => ∃ d, atI xs i = some d ∧ P d m | some (.dK kvs) => ∃ d, look kvs (.inl i) = some d ∧ P d m | some (.fz kvs) => ∃ d, look kvs (.inl i) = some d ∧ P d m | _ => False) = _
  rw [h]
theorem set_ref {m : Hm} {Q : Hm → Prop} {a : Nat} {xs : List D} {i : Int} {v : D} (h : m a = some (.lst xs)) : setW (.ref a) (.int i) v m Q = ∃ j, ixN xs.length i = some j ∧ Q (up m a (.lst (xs.set j v))) := by
  show (match m a with | some (.lst ds) => ∃ j, ixN ds.length i = some j ∧ Q (up m a (.lst (ds.set j v))) | some (.dK kvs) => kvs.length < SZ ∧ Q (up m a (.dK (putk kvs (.inl i) v))) | _ => False) = _
  rw [h]
theorem call_eq {t : Tab} {n f : Nat} {ds : List D} {m : Hm} {P : PD} {X : Nat → Hm → Prop} {fn : Fn} (h : t.F 0 f = some fn) (hl : ds.length = fn.params) (w : wpSs (sg t n) (fun c _ m2 => X c m2) fn.body (start fn ds) m (retK P)) : callN t (n + 1) 0 f ds m P X := ⟨fn, h, hl, w⟩
@[simp] theorem ret_rt {P : PD} : (retK P).rt = P := rfl
@[simp] theorem ret_nx {P : PD} {r : Env} {m : Hm} : (retK P).nx r m = P .non m := rfl
@[simp] theorem sg_C {t : Tab} {n : Nat} : (sg t n).C = callN t n := rfl
@[simp] theorem sg_hs {t : Tab} {n c k : Nat} : (sg t n).hs c k = (t.F c k).isSome := rfl
@[simp] theorem sg_ini {t : Tab} {n : Nat} : (sg t n).ini = t.ini := rfl
@[simp] theorem sg_ex {t : Tab} {n c : Nat} : (sg t n).ex c = t.ex c := rfl
@[simp] theorem sg_sub {t : Tab} {n c k : Nat} : (sg t n).sub c k = t.sub c k := rfl
@[simp] theorem sg_hot {t : Tab} {n a c : Nat} : (sg t n).hot a c = sgH t n (a, c) := rfl
@[simp] theorem sgH_C {t : Tab} {n : Nat} {h : Nat × Nat} : (sgH t n h).C = callH t h n := rfl
@[simp] theorem sgH_hs {t : Tab} {n c k : Nat} {h : Nat × Nat} : (sgH t n h).hs c k = (t.F c k).isSome := rfl
@[simp] theorem sgH_hx {t : Tab} {n : Nat} {h : Nat × Nat} : (sgH t n h).hx = some h := rfl
@[simp] theorem sgH_sub {t : Tab} {n c k : Nat} {h : Nat × Nat} : (sgH t n h).sub c k = t.sub c k := rfl
@[simp] theorem sgH_fld {t : Tab} {n : Nat} {h : Nat × Nat} : (sgH t n h).fld = t.fld := rfl
@[simp] theorem sg_fld {t : Tab} {n : Nat} : (sg t n).fld = t.fld := rfl
theorem call_iff {t : Tab} {n f : Nat} {ds : List D} {m : Hm} {P : PD} {X : Nat → Hm → Prop} {fn : Fn} (h : t.F 0 f = some fn) : callN t (n + 1) 0 f ds m P X ↔ ds.length = fn.params ∧ wpSs (sg t n) (fun c _ m2 => X c m2) fn.body (start fn ds) m (retK P) :=
  ⟨fun ⟨fn2, h1, h2, h3⟩ => by rw [h] at h1; cases h1; exact ⟨h2, h3⟩, fun ⟨h2, h3⟩ => ⟨fn, h, h2, h3⟩⟩
theorem ret_all {P : PD} {d : D} {m : Hm} (h : P d m) : (retK P).rt d m := h
def Keep (p : Nat) (m m2 : Hm) : Prop := ∀ a o, a ≠ p → m a = some o → m2 a = some o
def Bag (m : Hm) (p n : Nat) : Prop := ∃ a b s : Int, m p = some (.lst [.int a, .int b, .int s]) ∧ 0 ≤ a ∧ 0 ≤ b ∧ b < 4294967296 ∧ 0 ≤ s ∧ s + n ≤ 1000000
theorem Bag.mono {m : Hm} {p n k : Nat} (h : Bag m p n) (hk : k ≤ n) : Bag m p k := let ⟨a, b, s, h1, h2, h3, h4, h5, h6⟩ := h; ⟨a, b, s, h1, h2, h3, h4, h5, by omega⟩
theorem Keep.trans {p : Nat} {a b c : Hm} (h : Keep p a b) (h2 : Keep p b c) : Keep p a c := fun x o hx e => h2 x o hx (h x o hx e)
theorem Keep.up {p : Nat} {m : Hm} {o : MO} : Keep p m (up m p o) := fun a q ha e => by rw [up_off ha]; exact e
theorem Keep.refl {p : Nat} {m : Hm} : Keep p m m := fun a q ha e => e
def takeF : Fn := ⟨2, 7,
  (.cons (.ife (.cmp .gt (.idx (.var 0) (.num 0)) (.num 0)) (.cons (.asg (.nm 2) (.bin .mod (.idx (.var 0) (.num 0)) (.var 1)))
  (.cons (.asg (.sb (.var 0) (.num 0)) (.bin .fdiv (.idx (.var 0) (.num 0)) (.var 1)))
  (.cons (.ret (.var 2))
  .nil))) .nil)
  (.cons (.asg (.nm 3) (.tup (.cons (.num 2147483629) (.cons (.num 2147483587) (.cons (.num 2147483579) (.cons (.num 2147483563) (.cons (.num 2147483549) (.cons (.num 2147483543) (.cons (.num 2147483497) .nil)))))))))
  (.cons (.asg (.sb (.var 0) (.num 2)) (.bin .add (.idx (.var 0) (.num 2)) (.num 1)))
  (.cons (.asg (.nm 4) (.idx (.var 0) (.num 2)))
  (.cons (.asg (.nm 5) (.bin .add (.bin .add (.bin .mul (.idx (.var 0) (.num 1)) (.bin .add (.bin .mul (.num 2) (.var 4)) (.num 1))) (.bin .mul (.bin .mul (.num 6007) (.var 4)) (.var 4))) (.num 29)))
  (.cons (.asg (.nm 6) (.bin .mod (.bin .pow (.var 5) (.num 3)) (.idx (.var 3) (.bin .mod (.var 4) (.num 7)))))
  (.cons (.ret (.bin .mod (.bin .fdiv (.bin .mod (.bin .mul (.var 6) (.bin .add (.bin .fdiv (.var 6) (.num 4096)) (.num 11))) (.idx (.var 3) (.bin .mod (.bin .add (.var 4) (.num 3)) (.num 7)))) (.num 16)) (.var 1)))
  .nil)))))))⟩
theorem mulL {i j : Int} (h : -(2 ^ 64) < i ∧ i < 2 ^ 64) : mulOk i j = true := decide_eq_true (.inl h)
theorem mulR {i j : Int} (h : -(2 ^ 64) < j ∧ j < 2 ^ 64) : mulOk i j = true := decide_eq_true (.inr (.inl h))
theorem prime_at (i : Int) : ∃ q : Int, atI ([.int 2147483629, .int 2147483587, .int 2147483579, .int 2147483563, .int 2147483549, .int 2147483543, .int 2147483497] : List D) (i.fmod 7) = some (.int q) ∧ 2147483497 ≤ q ∧ q ≤ 2147483629 := by
  have h1 : 0 ≤ i.fmod 7 := Int.fmod_nonneg_of_pos i (by decide)
  have h2 : i.fmod 7 < 7 := Int.fmod_lt_of_pos i (by decide)
  generalize i.fmod 7 = j at h1 h2
  have : j = 0 ∨ j = 1 ∨ j = 2 ∨ j = 3 ∨ j = 4 ∨ j = 5 ∨ j = 6 := by omega
  rcases this with e | e | e | e | e | e | e <;> subst e <;> exact ⟨_, rfl, by decide, by decide⟩
theorem take_ok {t : Tab} {k n p : Nat} {d : Int} {m : Hm} {P : PD} {X : Nat → Hm → Prop} (hF : t.F 0 3 = some takeF) (hb : Bag m p (n + 1)) (h0 : 0 < d) (h1 : d < 1073741824)
    (post : ∀ (e : Int) m2, 0 ≤ e → e < d → Keep p m m2 → Bag m2 p n → P (.int e) m2) : callN t (k + 1) 0 3 [.ref p, .int d] m P X := by
  obtain ⟨a, b, s, hm, b1, b2, b3, b4, b5⟩ := hb
  refine call_eq hF rfl ?_
  have hd : d ≠ 0 := by omega
  have hd2 : d.natAbs < 1073741824 := by omega
  simp only [takeF, start, List.map, List.length, List.replicate, List.append, w_scons, w_ife, w_cmp, w_idx, w_var, w_num, v_z, v_s, List.cons_append, List.nil_append]
  refine ⟨_, rfl, ?_⟩
  rw [x_ref hm]
  refine ⟨_, rfl, ?_⟩
  rw [c_gt]
  refine ⟨_, rfl, ?_⟩
  by_cases hc : 0 < a
  · rw [if_pos (decide_eq_true hc)]
    simp only [w_scons, w_asg, w_bin, w_idx, w_var, w_num, w_sb, w_ret, w_nm, v_z, v_s, List.set]
    refine ⟨_, rfl, ?_⟩
    rw [x_ref hm]
    refine ⟨_, rfl, _, rfl, ?_⟩
    rw [b_mod]
    refine ⟨hd, _, rfl, ?_⟩
    rw [x_ref hm]
    refine ⟨_, rfl, _, rfl, ?_⟩
    rw [b_fdiv]
    refine ⟨⟨hd, .inl hd2⟩, _, rfl, ?_⟩
    rw [set_ref hm]
    refine ⟨0, rfl, _, rfl, ?_⟩
    refine ret_all (post _ _ (Int.fmod_nonneg_of_pos _ h0) (Int.fmod_lt_of_pos _ h0) .up ⟨_, b, s, up_at, ?_, b2, b3, b4, by omega⟩)
    exact Int.fdiv_nonneg b1 (by omega)
  · rw [if_neg (by simpa using hc)]
    simp only [w_snil, w_scons, w_asg, w_tup, w_cons, w_nil, w_bin, w_idx, w_var, w_num, w_sb, w_ret, w_nm, v_z, v_s, List.set]
    refine ⟨_, rfl, ?_⟩
    rw [x_ref hm]
    refine ⟨_, rfl, ?_⟩
    rw [b_add]
    refine ⟨_, rfl, ?_⟩
    rw [set_ref hm]
    refine ⟨2, rfl, _, rfl, ?_⟩
    rw [x_ref up_at]
    refine ⟨_, rfl, _, rfl, ?_⟩
    rw [x_ref up_at]
    have m1 : -(2 ^ 64) < (2 : Int) ∧ (2 : Int) < 2 ^ 64 := by decide
    refine ⟨_, rfl, _, rfl, ?_⟩
    rw [b_mul]
    refine ⟨mulL (by decide), ?_⟩
    rw [b_add, b_mul]
    refine ⟨mulL ⟨by omega, by omega⟩, _, rfl, ?_⟩
    rw [b_mul]
    refine ⟨mulL (by decide), _, rfl, ?_⟩
    rw [b_mul]
    refine ⟨mulR ⟨by omega, by omega⟩, ?_⟩
    rw [b_add, b_add]
    refine ⟨_, rfl, ?_⟩
    rw [b_pow]
    refine ⟨⟨by decide, by decide, ?_⟩, _, rfl, _, rfl, ?_⟩
    · have hs : s + 1 ≤ 1000000 := by omega
      have e1 : 0 ≤ b * (2 * (s + 1) + 1) := Int.mul_nonneg b2 (by omega)
      have e2 : b * (2 * (s + 1) + 1) ≤ 4294967296 * 2000001 := Int.mul_le_mul (by omega) (by omega) (by omega) (by omega)
      have e3 : 0 ≤ 6007 * (s + 1) * (s + 1) := Int.mul_nonneg (by omega) (by omega)
      have e4 : 6007 * (s + 1) * (s + 1) ≤ 6007000000 * 1000000 := Int.mul_le_mul (by omega) (by omega) (by omega) (by omega)
      show (b * (2 * (s + 1) + 1) + 6007 * (s + 1) * (s + 1) + 29).natAbs < 2 ^ 64
      omega
    rw [b_mod]
    refine ⟨by decide, ?_⟩
    obtain ⟨q, q1, q2, q3⟩ := prime_at (s + 1)
    rw [x_tup]
    refine ⟨_, q1, ?_⟩
    rw [b_mod]
    refine ⟨by omega, _, rfl, _, rfl, ?_⟩
    rw [b_fdiv]
    refine ⟨by decide, ?_⟩
    rw [b_add, b_mul]
    generalize hf : ((b * (2 * (s + 1) + 1) + 6007 * (s + 1) * (s + 1) + 29) ^ (3 : Int).toNat).fmod q = f
    have f1 : 0 ≤ f := by rw [← hf]; exact Int.fmod_nonneg_of_pos _ (by omega)
    have f2 : f < q := by rw [← hf]; exact Int.fmod_lt_of_pos _ (by omega)
    refine ⟨mulL ⟨by omega, by omega⟩, _, rfl, _, rfl, ?_⟩
    rw [b_add, b_mod]
    refine ⟨by decide, ?_⟩
    obtain ⟨q', q1', q2', q3'⟩ := prime_at (s + 1 + 3)
    rw [x_tup]
    refine ⟨_, q1', ?_⟩
    rw [b_mod]
    refine ⟨by omega, ?_⟩
    rw [b_fdiv]
    refine ⟨by decide, _, rfl, ?_⟩
    rw [b_mod]
    refine ⟨hd, ret_all (post _ _ (Int.fmod_nonneg_of_pos _ h0) (Int.fmod_lt_of_pos _ h0) .up ⟨a, b, s + 1, up_at, b1, b2, b3, by omega, by omega⟩)⟩
end Mn
end

section
set_option autoImplicit false
set_option linter.all false
set_option maxRecDepth 100000
set_option maxHeartbeats 4000000
namespace Mn
@[simp] theorem up_up {m : Hm} {p : Nat} {a b : MO} : up (up m p a) p b = up m p b := by
  funext x
  unfold up
  split <;> rfl
theorem loop_inv {st : Hm → Prop} {turn : D → Env → Hm → (Env → Hm → Prop) → Prop} {done : Env → Hm → Prop} (I : Nat → Env → Hm → Prop) : ∀ {xs : List D} {k : Nat} {r : Env} {m : Hm}, I k r m →
    (∀ i x r m nx, xs[i]? = some x → I (k + i) r m → (∀ r2 m2, I (k + i + 1) r2 m2 → nx r2 m2) → st m ∧ turn x r m nx) → (∀ r m, I (k + xs.length) r m → st m ∧ done r m) → loopW st turn done xs r m
  | [], k, r, m, h0, _, hd => hd r m h0
  | x :: xs, k, r, m, h0, hs, hd => by
    refine hs 0 x r m _ rfl h0 fun r2 m2 h => ?_
    refine loop_inv (k := k + 1) I h (fun i y r m nx hy hi hn => hs (i + 1) y r m nx hy (by rw [show k + (i + 1) = k + 1 + i by omega]; exact hi) fun r2 m2 h => hn r2 m2 (by rw [show k + 1 + i + 1 = k + (i + 1) + 1 by omega]; exact h)) fun r m h => hd r m ?_
    rw [show k + (x :: xs).length = k + 1 + xs.length by simp only [List.length_cons]; omega]
    exact h
theorem loop_mem {st : Hm → Prop} {turn : D → Env → Hm → (Env → Hm → Prop) → Prop} {done : Env → Hm → Prop} (I : Env → Hm → Prop) : ∀ {xs : List D} {r : Env} {m : Hm}, I r m →
    (∀ x r m nx, x ∈ xs → I r m → (∀ r2 m2, I r2 m2 → nx r2 m2) → st m ∧ turn x r m nx) → (∀ r m, I r m → st m ∧ done r m) → loopW st turn done xs r m
  | [], r, m, h0, _, hd => hd r m h0
  | x :: xs, r, m, h0, hs, hd => hs x r m _ (List.mem_cons_self) h0 fun r2 m2 h => loop_mem I h (fun y r m nx hy => hs y r m nx (List.mem_cons_of_mem _ hy)) hd
mutual
theorem flat_res {m : Hm} : ∀ {n : Nat} {d : D}, D.flat n d = true → Res m d d ∧ D.shp n d = true
  | _, .non, _ => ⟨.non, by simp [D.shp]⟩
  | _, .bl b, _ => ⟨.bl b, by simp [D.shp]⟩
  | _, .int i, _ => ⟨.int i, by simp [D.shp]⟩
  | _, .str s, h => ⟨.str s, by simpa [D.shp, D.flat] using h⟩
  | n, .tup ds, h => by
    cases n with
    | zero => simp [D.flat] at h
    | succ k =>
      have h : D.flats k ds = true := by simpa [D.flat] using h
      obtain ⟨h1, h2⟩ := flats_res (m := m) h
      exact ⟨.tup h1, by simpa [D.shp] using h2⟩
  | _, .lst _, h => by simp [D.flat] at h
  | _, .ref _, h => by simp [D.flat] at h
theorem flats_res {m : Hm} : ∀ {n : Nat} {ds : List D}, D.flats n ds = true → Ress m ds ds ∧ D.shps n ds = true
  | _, [], _ => ⟨.nil, by simp [D.shps]⟩
  | n, d :: ds, h => by
    have h : D.flat n d = true ∧ D.flats n ds = true := by simpa [D.flats] using h
    obtain ⟨h1, h2⟩ := flat_res (m := m) h.1
    obtain ⟨h3, h4⟩ := flats_res (m := m) h.2
    exact ⟨.cons h1 h3, by simp [D.shps, h2, h4]⟩
end
theorem eq_flat {m : Hm} {P : PD} {x y : D} {neg : Bool} (hx : D.flat 60 x = true) (hy : D.flat 60 y = true) (h : P (.bl (xor neg (D.eqv x y))) m) : eqW x y neg m P := by
  unfold eqW
  split
  · exact h
  · exact .inl ⟨x, y, (flat_res (m := m) hx).1, (flat_res (m := m) hy).1, (flat_res (m := m) hx).2, (flat_res (m := m) hy).2, h⟩
theorem eq_res {m : Hm} {P : PD} {x y x2 y2 : D} {neg : Bool} (hs : (scalD x && scalD y) = false) (hx : Res m x x2) (hy : Res m y y2) (sx : D.shp 60 x2 = true) (sy : D.shp 60 y2 = true) (h : P (.bl (xor neg (D.eqv x2 y2))) m) : eqW x y neg m P := by
  unfold eqW
  rw [if_neg (by rw [hs]; decide)]
  exact .inl ⟨x2, y2, hx, hy, sx, sy, h⟩
def bagF : Fn := ⟨2, 3,
  (.cons (.asg (.nm 2) (.bin .add (.bin .add (.bin .mul (.bin .mul (.num 9973) (.var 1)) (.var 1)) (.bin .mul (.num 101) (.var 1))) (.num 17)))
  (.cons (.ife (.cmp .lt (.var 1) (.bcall .len (.cons (.var 0) .nil))) (.cons (.asg (.nm 2) (.idx (.var 0) (.var 1)))
  .nil) .nil)
  (.cons (.ret (.lst (.cons (.bin .mul (.bcall .abs (.cons (.var 2) .nil)) (.bcall .int (.cons (.cmp .ge (.bcall .abs (.cons (.var 2) .nil)) (.bin .pow (.num 10) (.num 18))) .nil))) (.cons (.bin .add (.bin .mod (.var 2) (.num 2147483647)) (.bin .mul (.num 37) (.var 1))) (.cons (.num 0) .nil)))))
  .nil)))⟩
theorem bag_end {t : Tab} {k : Nat} {sc : D} {j c : Int} {m : Hm} {P : PD} {X : XD} (hj : 0 ≤ j) (hj2 : j < 1000) (post : ∀ p m2, m p = none → (∀ a o, m a = some o → m2 a = some o) → Bag m2 p 1000000 → P (.ref p) m2) :
    wpSs (sg t k) X (.cons (.ret (.lst (.cons (.bin .mul (.bcall .abs (.cons (.var 2) .nil)) (.bcall .int (.cons (.cmp .ge (.bcall .abs (.cons (.var 2) .nil)) (.bin .pow (.num 10) (.num 18))) .nil))) (.cons (.bin .add (.bin .mod (.var 2) (.num 2147483647)) (.bin .mul (.num 37) (.var 1))) (.cons (.num 0) .nil))))) .nil)
      [some sc, some (.int j), some (.int c)] m (retK P) := by
  have h1 : 0 ≤ c.fmod 2147483647 := Int.fmod_nonneg_of_pos _ (by decide)
  have h2 : c.fmod 2147483647 < 2147483647 := Int.fmod_lt_of_pos _ (by decide)
  have key : ∀ u : Int, 0 ≤ u → ∀ p, m p = none → P (.ref p) (up m p (.lst [.int u, .int (c.fmod 2147483647 + 37 * j), .int 0])) := fun u hu p hp => by
    refine post p _ hp (fun a o e => by rw [up_off (fun z => by rw [z, hp] at e; cases e)]; exact e) ⟨_, _, 0, up_at, hu, by omega, by omega, by decide, by decide⟩
  have m0 : ∀ i : Int, mulOk i 0 = true := fun i => mulR (by decide)
  have m1 : ∀ i : Int, mulOk i 1 = true := fun i => mulR (by decide)
  have m37 : mulOk 37 j = true := mulL (by decide)
  have kk := key 0 (by decide)
  by_cases hc : c < 0
  · by_cases hb : (1000000000000000000 : Int) ≤ -c
    · have := key (-c) (by omega)
      simp [hc, hb, m1, m37]
      exact this
    · simp [hc, hb, m0, m37]
      simpa using kk
  · by_cases hb : (1000000000000000000 : Int) ≤ c
    · have := key c (by omega)
      simp [hc, hb, m1, m37]
      exact this
    · simp [hc, hb, m0, m37]
      simpa using kk
theorem atI_map {ns : List Int} {j : Int} (h0 : 0 ≤ j) (h1 : j < ns.length) : ∃ c, atI (ns.map D.int) j = some (.int c) := by
  refine ⟨ns[j.toNat]'(by omega), ?_⟩
  unfold atI ixN
  rw [if_pos h0, List.length_map, if_pos h1]
  simp [List.getElem?_eq_getElem (show j.toNat < ns.length by omega)]
theorem bag_ok {t : Tab} {k : Nat} {ns : List Int} {j : Int} {m : Hm} {P : PD} {X : Nat → Hm → Prop} (hF : t.F 0 2 = some bagF) (hj : 0 ≤ j) (hj2 : j < 1000)
    (post : ∀ p m2, m p = none → (∀ a o, m a = some o → m2 a = some o) → Bag m2 p 1000000 → P (.ref p) m2) : callN t (k + 1) 0 2 [.lst (ns.map D.int), .int j] m P X := by
  refine call_eq hF rfl ?_
  have a1 : mulOk 9973 j = true := mulL (by decide)
  have a2 : mulOk (9973 * j) j = true := mulR ⟨by omega, by omega⟩
  have a3 : mulOk 101 j = true := mulL (by decide)
  show wpSs (sg t k) _ (.cons _ (.cons _ _)) _ _ _
  rw [w_scons, w_asg]
  simp only [w_bin, w_num, w_var, start, List.map, List.length, List.replicate, List.cons_append, List.nil_append, v_z, v_s, w_nm]
  refine ⟨_, rfl, ?_⟩
  rw [b_mul]
  refine ⟨a1, _, rfl, ?_⟩
  rw [b_mul]
  refine ⟨a2, _, rfl, ?_⟩
  rw [b_mul]
  refine ⟨a3, ?_⟩
  rw [b_add, b_add, w_scons, w_ife]
  simp only [w_cmp, w_var, w_bcall, w_cons, w_nil, v_z, v_s, List.set]
  refine ⟨_, rfl, _, rfl, ?_⟩
  rw [f_llst, c_lt]
  refine ⟨_, rfl, ?_⟩
  rw [List.length_map]
  by_cases hc : j < ns.length
  · rw [if_pos (decide_eq_true hc)]
    rw [w_scons, w_asg]
    simp only [w_idx, w_var, w_nm, w_snil, v_z, v_s, List.set]
    obtain ⟨c, e⟩ := atI_map hj hc
    refine ⟨_, rfl, _, rfl, ?_⟩
    rw [x_lst]
    refine ⟨_, e, ?_⟩
    exact bag_end (sc := .lst (ns.map D.int)) (c := c) hj hj2 post
  · rw [if_neg (by simpa using hc), w_snil]
    exact bag_end hj hj2 post
end Mn
end

section
set_option autoImplicit false
set_option linter.all false
set_option maxRecDepth 100000
set_option maxHeartbeats 4000000
namespace Mn
@[simp] theorem newO_eq {m : Hm} {o : MO} {P : PD} : newO m o P = ∀ p, m p = none → P (.ref p) (up m p o) := rfl
theorem get_new {m : Hm} {p a : Nat} {o o2 : MO} (hp : m p = none) (h : m a = some o) : up m p o2 a = some o := by rw [up_off (fun z => by rw [z, hp] at h; cases h)]; exact h
theorem ne_new {m : Hm} {p a : Nat} {o : MO} (hp : m p = none) (h : m a = some o) : a ≠ p := fun z => by rw [z, hp] at h; cases h
section
variable {m : Hm} {P : PD} {a b : Nat} {xs ys : List D}
theorem sl_ref {lo hi : Option Int} (h : m a = some (.lst xs)) : slW (.ref a) lo hi m P = ∀ p, m p = none → P (.ref p) (up m p (.lst (cut xs lo hi))) := by simp [slW, getL, h]
@[simp] theorem sl_tup {lo hi : Option Int} : slW (.tup xs) lo hi m P = P (.tup (cut xs lo hi)) m := rfl
theorem add_ref (h : m a = some (.lst xs)) (h2 : m b = some (.lst ys)) : binW .add (.ref a) (.ref b) m P = (xs.length + ys.length ≤ SZ ∧ ∀ p, m p = none → P (.ref p) (up m p (.lst (xs ++ ys)))) := by simp [binW, h, h2]
theorem tuple_ref (h : m a = some (.lst xs)) : bfW .tuple [.ref a] m P = P (.tup xs) m := by simp [bfW, getL, h]
@[simp] theorem tuple_tup : bfW .tuple [.tup xs] m P = P (.tup xs) m := rfl
theorem list_ref (h : m a = some (.lst xs)) : bfW .list [.ref a] m P = ∀ p, m p = none → P (.ref p) (up m p (.lst xs)) := by simp [bfW, seqOf, h]
@[simp] theorem list_tup : bfW .list [.tup xs] m P = ∀ p, m p = none → P (.ref p) (up m p (.lst xs)) := by simp [bfW, seqOf]
theorem len_ref (h : m a = some (.lst xs)) : bfW .len [.ref a] m P = P (.int xs.length) m := by simp [bfW, h]
theorem ne_eq_ {x y : D} : cmpW .ne x y m P = eqW x y true m P := rfl
theorem eq_eq_ {x y : D} : cmpW .eq x y m P = eqW x y false m P := rfl
theorem app_ref {d : D} (h : m a = some (.lst xs)) : bmW .append (.ref a) [d] m P = (xs.length < SZ ∧ P .non (up m a (.lst (xs ++ [d])))) := by simp [bmW, h]
theorem rk_ref (h : m a = some (.lst xs)) : rk m (.ref a) = 1 := by simp [rk, h]
end
theorem at_all {p : D → Prop} {ds : List D} (h : ∀ d ∈ ds, p d) {j : Int} (h0 : 0 ≤ j) (h1 : j < ds.length) : ∃ d, atI ds j = some d ∧ p d := by
  refine ⟨ds[j.toNat]'(by omega), ?_, h _ (List.getElem_mem _)⟩
  unfold atI ixN
  rw [if_pos h0, if_pos h1]
  simp [List.getElem?_eq_getElem (show j.toNat < ds.length by omega)]
def isInt : D → Bool | .int _ => true | _ => false
def nr : D → Bool | .ref _ => false | .exc _ _ => false | _ => true
@[simp] theorem nr_int {i : Int} : nr (.int i) = true := id rfl
@[simp] theorem isInt_int {i : Int} : isInt (.int i) = true := id rfl
theorem Bag.new {m : Hm} {p k q : Nat} {o : MO} (hq : m q = none) (h : Bag m p k) : Bag (up m q o) p k := let ⟨a, b, s, h1, h2⟩ := h; ⟨a, b, s, get_new hq h1, h2⟩
theorem Bag.at {m : Hm} {p k : Nat} (h : Bag m p k) : ∃ o, m p = some o := let ⟨_, _, _, h1, _⟩ := h; ⟨_, h1⟩
theorem Bag.off {m : Hm} {p k q : Nat} {o : MO} (hq : p ≠ q) (h : Bag m p k) : Bag (up m q o) p k := let ⟨a, b, s, h1, h2⟩ := h; ⟨a, b, s, by rw [up_off hq]; exact h1, h2⟩
/-- one of a list of numbers, drawn -/
theorem draw {ds : List D} {j : Int} {f : D → Hm → Prop} (hall : ∀ d ∈ ds, isInt d = true) {q : Nat} {m : Hm} (hm : m q = some (.lst ds)) (h0 : 0 ≤ j) (h1 : j < ds.length) (post : ∀ i : Int, f (.int i) m) : ixW (.ref q) (.int j) m f := by
  rw [x_ref hm]
  obtain ⟨d, hd, hi⟩ := at_all hall h0 h1
  cases d <;> simp [isInt] at hi
  exact ⟨_, hd, post _⟩
@[simp] theorem ex_ins {c0 : Nat} {f0 : List (Nat × D)} {Q : Nat → List (Nat × D) → Prop} : (∃ c fs, (c0 = c ∧ f0 = fs) ∧ Q c fs) ↔ Q c0 f0 :=
  ⟨fun ⟨_, _, ⟨h1, h2⟩, q⟩ => by subst h1 h2; exact q, fun q => ⟨_, _, ⟨rfl, rfl⟩, q⟩⟩
/-- one statement, what is known behind it named -/
theorem seq_to {g : Sg} {X : XD} {s : S} {ss : Ss} {r : Env} {m : Hm} {Q : K} (R : Env → Hm → Prop) (h1 : ∀ nx : Env → Hm → Prop, (∀ r1 m1, R r1 m1 → nx r1 m1) → wpS g X s r m ⟨nx, Q.rt, Q.bk, Q.ct⟩) (h2 : ∀ r1 m1, R r1 m1 → wpSs g X ss r1 m1 Q) : wpSs g X (.cons s ss) r m Q := h1 _ h2
theorem seq_eq {g : Sg} {X : XD} {s : S} {ss : Ss} {r : Env} {m : Hm} {Q : K} (r2 : Env) (m2 : Hm) (h1 : ∀ nx : Env → Hm → Prop, nx r2 m2 → wpS g X s r m ⟨nx, Q.rt, Q.bk, Q.ct⟩) (h2 : wpSs g X ss r2 m2 Q) : wpSs g X (.cons s ss) r m Q := h1 _ h2
@[simp] theorem ex_insN {c0 : Nat} {f0 : List (Nat × D)} {Q : Nat → List (Nat × D) → Prop} : (∃ c fs, (c0 = c ∧ fs = f0) ∧ Q c fs) ↔ Q c0 f0 :=
  ⟨fun ⟨_, _, ⟨h1, h2⟩, q⟩ => by subst h1 h2; exact q, fun q => ⟨_, _, ⟨rfl, rfl⟩, q⟩⟩
theorem in_flat {m : Hm} {P : PD} {a : Nat} {x : D} {ds : List D} {neg : Bool} (h : m a = some (.lst ds)) (hx : D.flat 60 x = true) (hd : D.flats 60 ds = true) (q : P (.bl (xor neg (ds.any fun z => D.eqv z x))) m) : inW x (.ref a) neg m P := by
  simp only [inW, h]
  exact ⟨x, ds, (flat_res (m := m) hx).1, (flats_res (m := m) hd).1, (flat_res (m := m) hx).2, (flats_res (m := m) hd).2, q⟩
theorem in_eq {m : Hm} {P : PD} {x y : D} : cmpW .in_ x y m P = inW x y false m P := rfl
theorem nin_eq {m : Hm} {P : PD} {x y : D} : cmpW .nin x y m P = inW x y true m P := rfl
@[simp] theorem in_tup {m : Hm} {P : PD} {x : D} {ds : List D} : cmpW .in_ x (.tup ds) m P = ((scalD x && ds.all scalD || D.flat 58 x && D.flats 58 ds) = true ∧ P (.bl (xor false (ds.any fun z => D.eqv z x))) m) := rfl
@[simp] theorem nin_tup {m : Hm} {P : PD} {x : D} {ds : List D} : cmpW .nin x (.tup ds) m P = ((scalD x && ds.all scalD || D.flat 58 x && D.flats 58 ds) = true ∧ P (.bl (xor true (ds.any fun z => D.eqv z x))) m) := rfl
/-- two lists of plain data -/
theorem eq_lists {m : Hm} {P : PD} {a b : Nat} {xs ys : List D} {neg : Bool} (ha : m a = some (.lst xs)) (hb : m b = some (.lst ys)) (fx : D.flats 59 xs = true) (fy : D.flats 59 ys = true) (q : P (.bl (xor neg (D.eqvs xs ys))) m) : eqW (.ref a) (.ref b) neg m P :=
  eq_res rfl (.ref ha (flats_res (m := m) fx).1) (.ref hb (flats_res (m := m) fy).1) (by simpa [D.shp] using (flats_res (m := m) fx).2) (by simpa [D.shp] using (flats_res (m := m) fy).2) (by simpa [D.eqv] using q)
def Ext (m m2 : Hm) : Prop := ∀ b o, m b = some o → m2 b = some o
theorem Ext.refl {m : Hm} : Ext m m := fun _ _ h => h
theorem Ext.trans {a b c : Hm} (h : Ext a b) (h2 : Ext b c) : Ext a c := fun x o e => h2 x o (h x o e)
theorem Ext.new {m : Hm} {p : Nat} {o : MO} (hp : m p = none) : Ext m (up m p o) := fun b q h => get_new hp h
theorem Bag.ext {m m2 : Hm} {p k : Nat} (h : Bag m p k) (e : Ext m m2) : Bag m2 p k := let ⟨a, b, s, h1, h2⟩ := h; ⟨a, b, s, e _ _ h1, h2⟩
end Mn
end

section
set_option autoImplicit false
set_option linter.all false
set_option maxRecDepth 100000
set_option maxHeartbeats 4000000
namespace Mn
def kindF : Fn := ⟨1, 3,
  (.cons (.asg (.nm 1) (.lst (.cons (.isin (.var 0) [.own 7]) (.cons (.isin (.var 0) [.own 8]) (.cons (.isin (.var 0) [.own 9]) (.cons (.isin (.var 0) [.own 10]) .nil))))))
  (.cons (.asg (.nm 1) (.bin .add (.var 1) (.lst (.cons (.isin (.var 0) [.own 11]) (.cons (.isin (.var 0) [.own 12]) (.cons (.isin (.var 0) [.own 13]) (.cons (.isin (.var 0) [.own 14]) .nil)))))))
  (.cons (.asg (.nm 1) (.bin .add (.var 1) (.lst (.cons (.isin (.var 0) [.own 15]) (.cons (.isin (.var 0) [.own 16]) (.cons (.isin (.var 0) [.own 17]) (.cons (.isin (.var 0) [.own 18]) .nil)))))))
  (.cons (.ex (.bmeth .append (.var 1) (.cons (.isin (.var 0) [.own 19]) .nil)))
  (.cons (.asg (.nm 2) (.lst (.cons (.txt [112, 108, 97, 110]) (.cons (.txt [116, 101, 120, 116]) (.cons (.txt [115, 116, 114, 101, 116, 99, 104]) (.cons (.txt [115, 112, 111, 116]) (.cons (.txt [111, 112, 101, 110, 101, 114]) (.cons (.txt [97, 100, 100, 114, 101, 115, 115]) (.cons (.txt [114, 117, 108, 101, 115]) (.cons (.txt [104, 97, 110, 100]) (.cons (.txt [112, 97, 110, 101, 108]) (.cons (.txt [108, 105, 110, 107]) (.cons (.txt [108, 111, 103]) (.cons (.txt [100, 101, 101, 100]) .nil))))))))))))))
  (.cons (.ex (.bmeth .append (.var 2) (.cons (.txt [114, 111, 119]) .nil)))
  (.cons (.ife (.or_ (.cons (.not_ (.isin (.var 0) [.verr])) (.cons (.cmp .ne (.bmeth .count (.var 1) (.cons (.bl true) .nil)) (.num 1)) .nil))) (.cons (.ret (.txt [111, 116, 104, 101, 114]))
  .nil) .nil)
  (.cons (.ret (.idx (.var 2) (.bmeth .index (.var 1) (.cons (.bl true) .nil))))
  .nil))))))))⟩
def knames : List (List Nat) := [[112, 108, 97, 110], [116, 101, 120, 116], [115, 116, 114, 101, 116, 99, 104], [115, 112, 111, 116], [111, 112, 101, 110, 101, 114], [97, 100, 100, 114, 101, 115, 115], [114, 117, 108, 101, 115], [104, 97, 110, 100], [112, 97, 110, 101, 108], [108, 105, 110, 107], [108, 111, 103], [100, 101, 101, 100], [114, 111, 119]]
def kname (c : Nat) : List Nat := knames.getD (c - 7) []
theorem idx_ref {m : Hm} {P : PD} {a : Nat} {x : D} {ds : List D} {j : Nat} (h : m a = some (.lst ds)) (hx : D.flat 60 x = true) (hd : D.flats 60 ds = true) (hj : fstIx x ds 0 = some j) (q : P (.int (j : Nat)) m) : bmW .index (.ref a) [x] m P := by
  simp only [bmW, h]
  exact ⟨x, ds, j, (flat_res (m := m) hx).1, (flats_res (m := m) hd).1, (flat_res (m := m) hx).2, (flats_res (m := m) hd).2, hj, q⟩
theorem Ext.none {m m2 : Hm} {q : Nat} (e : Ext m m2) (h : m2 q = none) : m q = none := by
  cases z : m q with
  | none => rfl
  | some o => rw [e _ _ z] at h; cases h
theorem kind_ok {t : Tab} {n a c : Nat} {m : Hm} {P : PD} {X : Nat → Hm → Prop} (hF : t.F 0 5 = some kindF) (h7 : 7 ≤ c) (h19 : c ≤ 19) (hs : ∀ k, 7 ≤ k → k ≤ 19 → t.sub c k = decide (c = k))
    (post : ∀ m2, Ext m m2 → P (.str (kname c)) m2) : callH t (a, c) (n + 1) 0 5 [.exc a c] m P X := by
  refine ⟨kindF, hF, rfl, ?_⟩
  show wpSs (sgH t n (a, c)) XF kindF.body _ m (retK P)
  obtain ⟨b7, hb7, o7⟩ : ∃ b, b = decide (c = 7) ∧ ∀ m : Hm, isT (sgH t n (a, c)) m (.exc a c) [.own 7] = some b := ⟨_, rfl, fun m => by rw [isT_own rfl]; exact congrArg some (hs 7 (by decide) (by decide))⟩
  obtain ⟨b8, hb8, o8⟩ : ∃ b, b = decide (c = 8) ∧ ∀ m : Hm, isT (sgH t n (a, c)) m (.exc a c) [.own 8] = some b := ⟨_, rfl, fun m => by rw [isT_own rfl]; exact congrArg some (hs 8 (by decide) (by decide))⟩
  obtain ⟨b9, hb9, o9⟩ : ∃ b, b = decide (c = 9) ∧ ∀ m : Hm, isT (sgH t n (a, c)) m (.exc a c) [.own 9] = some b := ⟨_, rfl, fun m => by rw [isT_own rfl]; exact congrArg some (hs 9 (by decide) (by decide))⟩
  obtain ⟨b10, hb10, o10⟩ : ∃ b, b = decide (c = 10) ∧ ∀ m : Hm, isT (sgH t n (a, c)) m (.exc a c) [.own 10] = some b := ⟨_, rfl, fun m => by rw [isT_own rfl]; exact congrArg some (hs 10 (by decide) (by decide))⟩
  obtain ⟨b11, hb11, o11⟩ : ∃ b, b = decide (c = 11) ∧ ∀ m : Hm, isT (sgH t n (a, c)) m (.exc a c) [.own 11] = some b := ⟨_, rfl, fun m => by rw [isT_own rfl]; exact congrArg some (hs 11 (by decide) (by decide))⟩
  obtain ⟨b12, hb12, o12⟩ : ∃ b, b = decide (c = 12) ∧ ∀ m : Hm, isT (sgH t n (a, c)) m (.exc a c) [.own 12] = some b := ⟨_, rfl, fun m => by rw [isT_own rfl]; exact congrArg some (hs 12 (by decide) (by decide))⟩
  obtain ⟨b13, hb13, o13⟩ : ∃ b, b = decide (c = 13) ∧ ∀ m : Hm, isT (sgH t n (a, c)) m (.exc a c) [.own 13] = some b := ⟨_, rfl, fun m => by rw [isT_own rfl]; exact congrArg some (hs 13 (by decide) (by decide))⟩
  obtain ⟨b14, hb14, o14⟩ : ∃ b, b = decide (c = 14) ∧ ∀ m : Hm, isT (sgH t n (a, c)) m (.exc a c) [.own 14] = some b := ⟨_, rfl, fun m => by rw [isT_own rfl]; exact congrArg some (hs 14 (by decide) (by decide))⟩
  obtain ⟨b15, hb15, o15⟩ : ∃ b, b = decide (c = 15) ∧ ∀ m : Hm, isT (sgH t n (a, c)) m (.exc a c) [.own 15] = some b := ⟨_, rfl, fun m => by rw [isT_own rfl]; exact congrArg some (hs 15 (by decide) (by decide))⟩
  obtain ⟨b16, hb16, o16⟩ : ∃ b, b = decide (c = 16) ∧ ∀ m : Hm, isT (sgH t n (a, c)) m (.exc a c) [.own 16] = some b := ⟨_, rfl, fun m => by rw [isT_own rfl]; exact congrArg some (hs 16 (by decide) (by decide))⟩
  obtain ⟨b17, hb17, o17⟩ : ∃ b, b = decide (c = 17) ∧ ∀ m : Hm, isT (sgH t n (a, c)) m (.exc a c) [.own 17] = some b := ⟨_, rfl, fun m => by rw [isT_own rfl]; exact congrArg some (hs 17 (by decide) (by decide))⟩
  obtain ⟨b18, hb18, o18⟩ : ∃ b, b = decide (c = 18) ∧ ∀ m : Hm, isT (sgH t n (a, c)) m (.exc a c) [.own 18] = some b := ⟨_, rfl, fun m => by rw [isT_own rfl]; exact congrArg some (hs 18 (by decide) (by decide))⟩
  obtain ⟨b19, hb19, o19⟩ : ∃ b, b = decide (c = 19) ∧ ∀ m : Hm, isT (sgH t n (a, c)) m (.exc a c) [.own 19] = some b := ⟨_, rfl, fun m => by rw [isT_own rfl]; exact congrArg some (hs 19 (by decide) (by decide))⟩
  have ov : ∀ m : Hm, isT (sgH t n (a, c)) m (.exc a c) [.verr] = some true := fun m => isT_verr rfl
  have z8 : 4 + 4 ≤ SZ := by decide
  have z12 : 8 + 4 ≤ SZ := by decide
  unfold kindF start
  simp only [List.map, List.length, List.replicate, List.cons_append, List.nil_append]
  let R : List Bool → Mn.Env → Hm → Prop := fun bs r1 m1 => ∃ q, r1 = [some (.exc a c), some (.ref q), none] ∧ m1 q = some (.lst (bs.map D.bl)) ∧ Ext m m1 ∧ m q = none
  refine seq_to (R [b7, b8, b9, b10]) (fun nx hn => ?_) ?_
  · simp [-Bool.exists_bool, o7, o8, o9, o10]
    exact fun p hp => hn _ _ ⟨p, rfl, up_at, .new hp, hp⟩
  rintro _ m1 ⟨q, rfl, hq, e1, q0⟩
  refine seq_to (R [b7, b8, b9, b10, b11, b12, b13, b14]) (fun nx hn => ?_) ?_
  · simp [-Bool.exists_bool, o11, o12, o13, o14]
    intro p hp
    rw [add_ref (get_new hp hq) up_at]
    exact ⟨z8, fun p2 hp2 => hn _ _ ⟨p2, rfl, up_at, (e1.trans (.new hp)).trans (.new hp2), (e1.trans (.new hp)).none hp2⟩⟩
  clear hq e1 q0 q m1
  rintro _ m1 ⟨q, rfl, hq, e1, q0⟩
  refine seq_to (R [b7, b8, b9, b10, b11, b12, b13, b14, b15, b16, b17, b18]) (fun nx hn => ?_) ?_
  · simp [-Bool.exists_bool, o15, o16, o17, o18]
    intro p hp
    rw [add_ref (get_new hp hq) up_at]
    exact ⟨z12, fun p2 hp2 => hn _ _ ⟨p2, rfl, up_at, (e1.trans (.new hp)).trans (.new hp2), (e1.trans (.new hp)).none hp2⟩⟩
  clear hq e1 q0 q m1
  rintro _ m1 ⟨q, rfl, hq, e1, q0⟩
  refine seq_eq [some (.exc a c), some (.ref q), none] (up m1 q (.lst ([b7, b8, b9, b10, b11, b12, b13, b14, b15, b16, b17, b18, b19].map D.bl))) (fun nx hn => ?_) ?_
  · simp [-Bool.exists_bool, o19, rk_ref hq, mok]
    rw [app_ref hq]
    exact ⟨by show 12 < SZ; decide, hn⟩
  have hq2 : up m1 q (.lst ([b7, b8, b9, b10, b11, b12, b13, b14, b15, b16, b17, b18, b19].map D.bl)) q = some (.lst ([b7, b8, b9, b10, b11, b12, b13, b14, b15, b16, b17, b18, b19].map D.bl)) := up_at
  have e2 : Ext m (up m1 q (.lst ([b7, b8, b9, b10, b11, b12, b13, b14, b15, b16, b17, b18, b19].map D.bl))) := fun x ob hx => by
    rw [up_off (ne_new q0 hx)]
    exact e1 _ _ hx
  generalize up m1 q (.lst ([b7, b8, b9, b10, b11, b12, b13, b14, b15, b16, b17, b18, b19].map D.bl)) = m2 at hq2 e2 ⊢
  let N0 : List D := [.str [112, 108, 97, 110], .str [116, 101, 120, 116], .str [115, 116, 114, 101, 116, 99, 104], .str [115, 112, 111, 116], .str [111, 112, 101, 110, 101, 114], .str [97, 100, 100, 114, 101, 115, 115], .str [114, 117, 108, 101, 115], .str [104, 97, 110, 100], .str [112, 97, 110, 101, 108], .str [108, 105, 110, 107], .str [108, 111, 103], .str [100, 101, 101, 100]]
  refine seq_to (fun r1 m3 => ∃ z, r1 = [some (.exc a c), some (.ref q), some (.ref z)] ∧ z ≠ q ∧ m3 q = some (.lst ([b7, b8, b9, b10, b11, b12, b13, b14, b15, b16, b17, b18, b19].map D.bl)) ∧ m3 z = some (.lst N0) ∧ m2 z = none ∧ Ext m2 m3) (fun nx hn => ?_) ?_
  · simp
    exact fun p hp => hn _ _ ⟨p, rfl, (ne_new hp hq2).symm, get_new hp hq2, up_at, hp, .new hp⟩
  rintro _ m3 ⟨z, rfl, hz, hq3, hz3, hz0, e3⟩
  refine seq_eq [some (.exc a c), some (.ref q), some (.ref z)] (up m3 z (.lst (N0 ++ [.str [114, 111, 119]]))) (fun nx hn => ?_) ?_
  · simp [rk_ref hz3, mok]
    rw [app_ref hz3]
    exact ⟨by decide, hn⟩
  have hq4 : up m3 z (.lst (N0 ++ [.str [114, 111, 119]])) q = some (.lst ([b7, b8, b9, b10, b11, b12, b13, b14, b15, b16, b17, b18, b19].map D.bl)) := by rw [up_off hz.symm]; exact hq3
  have hz4 : up m3 z (.lst (N0 ++ [.str [114, 111, 119]])) z = some (.lst (N0 ++ [.str [114, 111, 119]])) := up_at
  have e4 : Ext m (up m3 z (.lst (N0 ++ [.str [114, 111, 119]]))) := fun x ob hx => by
    have hx2 := e2 _ _ hx
    rw [up_off (ne_new hz0 hx2)]
    exact e3 _ _ hx2
  generalize up m3 z (.lst (N0 ++ [.str [114, 111, 119]])) = m4 at hq4 hz4 e4 ⊢
  have fb : ∀ bs : List Bool, D.flats 60 (bs.map D.bl) = true := fun bs => by induction bs with | nil => rfl | cons b bs ih => simp [D.flats, D.flat, ih]
  have cnt : ∀ bs : List Bool, blsOf (bs.map D.bl) = some bs := fun bs => by induction bs with | nil => rfl | cons b bs ih => simp [blsOf, ih]
  have fin : ∃ j : Nat, [b7, b8, b9, b10, b11, b12, b13, b14, b15, b16, b17, b18, b19].count true = 1 ∧ fstIx (.bl true) ([b7, b8, b9, b10, b11, b12, b13, b14, b15, b16, b17, b18, b19].map D.bl) 0 = some j ∧ atI (N0 ++ [.str [114, 111, 119]]) (j : Int) = some (.str (kname c)) := by
    have hc : c = 7 ∨ c = 8 ∨ c = 9 ∨ c = 10 ∨ c = 11 ∨ c = 12 ∨ c = 13 ∨ c = 14 ∨ c = 15 ∨ c = 16 ∨ c = 17 ∨ c = 18 ∨ c = 19 := by omega
    rcases hc with e | e | e | e | e | e | e | e | e | e | e | e | e <;> subst e <;> subst hb7 hb8 hb9 hb10 hb11 hb12 hb13 hb14 hb15 hb16 hb17 hb18 hb19 <;> exact ⟨_, rfl, rfl, rfl⟩
  obtain ⟨j, f1, f2, f3⟩ := fin
  refine seq_eq [some (.exc a c), some (.ref q), some (.ref z)] m4 (fun nx hn => ?_) ?_
  · have hcount : ∀ P : PD, bmW .count (.ref q) [.bl true] m4 P = P (.int 1) m4 := fun P => by
      simp only [bmW, hq4, cnt]
      simp [f1]
    simp [-Bool.exists_bool, ov, rk_ref hq4, mok, hcount]
    exact hn
  simp [rk_ref hq4, mok]
  refine idx_ref hq4 rfl (fb _) f2 ?_
  rw [x_ref hz4]
  exact ⟨_, f3, post _ e4⟩
end Mn
end

section
set_option autoImplicit false
set_option linter.all false
set_option maxRecDepth 100000
set_option maxHeartbeats 4000000
namespace Mn
theorem Keep.ext {p : Nat} {m m2 : Hm} (hp : m p = none) (k : Keep p m m2) : Ext m m2 := fun b o e => k b o (fun z => by rw [z, hp] at e; cases e) e
theorem Ext.keep {p : Nat} {m m2 : Hm} (e : Ext m m2) : Keep p m m2 := fun b o _ h => e b o h
/-- items of a kind, each comes to one -/
theorem comp_list {α : Type} {p : Nat} {st : Hm → Prop} {turn : D → Hm → PD → (Hm → Prop) → Prop} {done : Hm → Prop} {m0 : Hm} (l : List α) (g f : α → D) (hp : m0 p = none) (hst : ∀ m1, Keep p m0 m1 → st m1) (hl : l.length < SZ)
    (ht : ∀ x ∈ l, ∀ m2 acc Q1 Q2, Keep p m0 m2 → m2 p = some (.lst acc) → (∀ m3, Keep p m0 m3 → m3 p = some (.lst acc) → Q1 (f x) m3) → turn (g x) m2 Q1 Q2)
    (hd : ∀ m3, Ext m0 m3 → m3 p = some (.lst (l.map f)) → done m3) : compW p st turn done (l.map g) (up m0 p (.lst [])) := by
  have key : ∀ (l2 : List α) (acc : List D) (m1 : Hm), (∀ x ∈ l2, x ∈ l) → Keep p m0 m1 → m1 p = some (.lst acc) → acc.length + l2.length < SZ → (∀ m3, Keep p m0 m3 → m3 p = some (.lst (acc ++ l2.map f)) → done m3) → compW p st turn done (l2.map g) m1 := by
    intro l2
    induction l2 with
    | nil => exact fun acc m1 _ k h _ hd => ⟨hst _ k, hd _ k (by simpa using h)⟩
    | cons x xs ih =>
      intro acc m1 hx k h hl hd
      refine ⟨hst _ k, ht x (hx x List.mem_cons_self) m1 acc _ _ k h fun m3 k3 h3 => ⟨acc, h3, by simp only [List.length_cons] at hl; omega, ?_⟩⟩
      refine ih (acc ++ [f x]) _ (fun y hy => hx y (List.mem_cons_of_mem _ hy)) (k3.trans .up) up_at (by simp only [List.length_cons, List.length_append, List.length_nil] at hl ⊢; omega) fun m4 k4 h4 => hd m4 k4 ?_
      simpa using h4
  exact key l [] _ (fun _ h => h) .up up_at (by simpa using hl) fun m3 k3 h3 => hd m3 (k3.ext hp) (by simpa using h3)
/-- turn by turn: I holds of how many turns there were, the items so far, the heap -/
theorem comp_inv {p : Nat} {st : Hm → Prop} {turn : D → Hm → PD → (Hm → Prop) → Prop} {done : Hm → Prop} (I : Nat → List D → Hm → Prop) : ∀ {xs acc : List D} {k : Nat} {m : Hm}, I k acc m → acc.length + xs.length < SZ →
    (∀ i x acc m Q1 Q2, xs[i]? = some x → I (k + i) acc m → (∀ y m2, m2 p = some (.lst acc) → I (k + i + 1) (acc ++ [y]) (up m2 p (.lst (acc ++ [y]))) → Q1 y m2) → (∀ m2, I (k + i + 1) acc m2 → Q2 m2) → st m ∧ turn x m Q1 Q2) →
    (∀ acc m, I (k + xs.length) acc m → st m ∧ done m) → compW p st turn done xs m
  | [], acc, k, m, h0, _, _, hd => hd acc m h0
  | x :: xs, acc, k, m, h0, hl, ht, hd => by
    have next : ∀ {acc2 : List D} {m2 : Hm}, I (k + 1) acc2 m2 → acc2.length ≤ acc.length + 1 → compW p st turn done xs m2 := fun {acc2 m2} h2 hl2 =>
      comp_inv I (k := k + 1) h2 (by simp only [List.length_cons] at hl; omega)
        (fun i y a m Q1 Q2 hy hi q1 q2 => ht (i + 1) y a m Q1 Q2 hy (by rw [show k + (i + 1) = k + 1 + i by omega]; exact hi)
          (fun y m2 h h2 => q1 y m2 h (by rw [show k + 1 + i + 1 = k + (i + 1) + 1 by omega]; exact h2)) (fun m2 h2 => q2 m2 (by rw [show k + 1 + i + 1 = k + (i + 1) + 1 by omega]; exact h2)))
        (fun a m h => hd a m (by rw [show k + (x :: xs).length = k + 1 + xs.length by simp only [List.length_cons]; omega]; exact h))
    exact ht 0 x acc m _ _ rfl h0 (fun y m2 h h2 => ⟨acc, h, by simp only [List.length_cons] at hl; omega, next h2 (by simp)⟩) (fun m2 h2 => next h2 (by omega))
/-- each turn draws from the bag at b, and comes to something that G holds of -/
theorem comp_bag {p b : Nat} {st : Hm → Prop} {turn : D → Hm → PD → (Hm → Prop) → Prop} {done : Hm → Prop} {m0 : Hm} (G : D → Prop) (c : Nat) (hp : m0 p = none) (hst : ∀ m1, Keep b m0 m1 → st m1) :
    ∀ {xs : List D} {k : Nat}, Bag m0 b (k + c * xs.length) → xs.length < SZ →
    (∀ x ∈ xs, ∀ m2 j Q1 Q2, Keep b m0 m2 → Bag m2 b (j + c) → (∀ y m3, G y → Keep b m2 m3 → Bag m3 b j → Q1 y m3) → turn x m2 Q1 Q2) →
    (∀ m3 ys, ys.length = xs.length → (∀ y ∈ ys, G y) → Keep b m0 m3 → Bag m3 b k → m3 p = some (.lst ys) → done m3) → compW p st turn done xs (up m0 p (.lst [])) := by
  intro xs k hb hl ht hd
  have hpb : p ≠ b := by
    obtain ⟨o, ho⟩ := hb.at
    exact (ne_new hp ho).symm
  have key : ∀ (l : List D) (acc : List D) (m1 : Hm), (∀ x ∈ l, x ∈ xs) → (∀ y ∈ acc, G y) → Keep b m0 m1 → Bag m1 b (k + c * l.length) → m1 p = some (.lst acc) → acc.length + l.length < SZ →
      (∀ m3 ys, ys.length = acc.length + l.length → (∀ y ∈ ys, G y) → Keep b m0 m3 → Bag m3 b k → m3 p = some (.lst ys) → done m3) → compW p st turn done l m1 := by
    intro l
    induction l with
    | nil => exact fun acc m1 _ hg k1 b1 h1 _ hd => ⟨hst _ k1, hd m1 acc (by simp) hg k1 (by simpa using b1) h1⟩
    | cons x l ih =>
      intro acc m1 hx hg k1 b1 h1 hl hd
      refine ⟨hst _ k1, ht x (hx x List.mem_cons_self) m1 (k + c * l.length) _ _ k1 (by rw [List.length_cons, Nat.mul_succ] at b1; rw [Nat.add_assoc]; exact b1) fun y m2 gy k2 b2 => ⟨acc, k2 _ _ hpb h1, by simp only [List.length_cons] at hl; omega, ?_⟩⟩
      refine ih (acc ++ [y]) _ (fun z hz => hx z (List.mem_cons_of_mem _ hz)) (fun z hz => ?_) (fun o ob ho hm => ?_) (b2.off hpb.symm) up_at (by simp only [List.length_cons, List.length_append, List.length_nil] at hl ⊢; omega) fun m3 ys hy => hd m3 ys (by rw [hy]; simp only [List.length_append, List.length_cons, List.length_nil]; omega)
      · rcases List.mem_append.mp hz with e | e
        · exact hg z e
        · rw [List.mem_singleton.mp e]; exact gy
      · rw [up_off (ne_new hp hm)]
        exact k2 _ _ ho (k1 _ _ ho hm)
  refine key xs [] _ (fun _ h => h) (fun _ h => nomatch h) (fun o ob ho hm => by rw [up_off (ne_new hp hm)]; exact hm) (hb.off hpb.symm) up_at (by simpa using hl) fun m3 ys hy => hd m3 ys (by simpa using hy)
/-- a loop's body kept shut -/
theorem fr_shut {g : Sg} {X : XD} {t : T} {it : I} {b : Ss} {r : Env} {m : Hm} {Q : K} (h : ∀ B, B = b → wpS g X (.fr t it B) r m Q) : wpS g X (.fr t it b) r m Q := h b rfl
theorem bls_map : ∀ bs : List Bool, blsOf (bs.map D.bl) = some bs
  | [] => rfl
  | n :: ns => by simp [blsOf, bls_map ns]
theorem strs_map : ∀ ss : List (List Nat), strsOf (ss.map D.str) = some ss
  | [] => rfl
  | n :: ns => by simp [strsOf, strs_map ns]
/-- a text of plain signs -/
def pln (s : List Nat) : Bool := s.all (· < 1114112)
section
variable {m : Hm} {P : PD} {a b : Nat} {xs ys : List D}
theorem all_bls {bs : List Bool} (h : m a = some (.lst (bs.map D.bl))) : bfW .all [.ref a] m P = P (.bl (bs.all id)) m := by simp [bfW, h, bls_map]
theorem join_strs {sep : List Nat} {ss : List (List Nat)} (h : m a = some (.lst (ss.map D.str))) : bmW .join (.str sep) [.ref a] m P = ((ss.map List.length).sum + ss.length * sep.length ≤ SZ ∧ P (.str (joinT sep ss)) m) := by simp [bmW, h, strs_map]
@[simp] theorem f_lstr {s : List Nat} : bfW .len [.str s] m P = (s.length ≤ SZ ∧ P (.int s.length) m) := rfl
@[simp] theorem f_ord {c : Nat} : bfW .ord [.str [c]] m P = P (.int c) m := rfl
@[simp] theorem x_str {s : List Nat} {i : Int} : ixW (.str s) (.int i) m P = (s.length ≤ SZ ∧ ∃ c, atI s i = some c ∧ P (.str [c]) m) := rfl
@[simp] theorem sl_str {s : List Nat} {lo hi : Option Int} : slW (.str s) lo hi m P = (s.length ≤ SZ ∧ P (.str (cut s lo hi)) m) := rfl
@[simp] theorem b_smul {s : List Nat} {k : Int} : binW .mul (.str s) (.int k) m P = ((-(2 ^ 63) ≤ k ∧ k < 2 ^ 63) ∧ s.length * k.toNat ≤ SZ ∧ P (.str (repD s k.toNat)) m) := rfl
@[simp] theorem walk_str {s : List Nat} {K : List D → (Hm → Prop) → Hm → Prop} : walkV (.str s) m K = K (s.map fun c => .str [c]) (fun _ => True) m := rfl
@[simp] theorem walk_tup {ds : List D} {K : List D → (Hm → Prop) → Hm → Prop} : walkV (.tup ds) m K = K ds (fun _ => True) m := rfl
@[simp] theorem walk_lst {ds : List D} {K : List D → (Hm → Prop) → Hm → Prop} : walkV (.lst ds) m K = K ds (fun _ => True) m := rfl
theorem walk_ref {K : List D → (Hm → Prop) → Hm → Prop} (h : m a = some (.lst xs)) : walkV (.ref a) m K = K xs (fun m2 => m2 a = some (.lst xs)) m := by simp [walkV, h]
@[simp] theorem rng1 {j : Int} {K : List D → (Hm → Prop) → Hm → Prop} : rngW [.int j] m K = (inB j ∧ K (rangeD 0 j.toNat) (fun _ => True) m) := rfl
@[simp] theorem rng2 {i j : Int} {K : List D → (Hm → Prop) → Hm → Prop} : rngW [.int i, .int j] m K = (inB i ∧ inB j ∧ K (rangeD i (j - i).toNat) (fun _ => True) m) := rfl
@[simp] theorem ty_ref (h : m a = some (.lst xs)) {g : Sg} : isT g m (.ref a) [.list] = some true := by simp [y_ref h]
end
theorem rangeD_map (n : Nat) : rangeD 0 n = (List.range n).map fun i => D.int (i : Nat) := by simp [rangeD]
theorem range_get {lo : Int} {n i : Nat} {x : D} (h : (rangeD lo n)[i]? = some x) : x = .int (lo + (i : Nat)) ∧ i < n := by
  unfold rangeD at h
  rw [List.getElem?_map] at h
  cases e : (List.range n)[i]? with
  | none => rw [e] at h; cases h
  | some j =>
    rw [e] at h
    have hl : i < n := by have := (List.getElem?_eq_some_iff.mp e).1; simpa using this
    rw [List.getElem?_range hl] at e
    cases e
    cases h
    exact ⟨rfl, hl⟩
@[simp] theorem rangeD_length {lo : Int} {n : Nat} : (rangeD lo n).length = n := by simp [rangeD]
theorem atI_nat {α : Type} {xs : List α} {i : Nat} (h : i < xs.length) : atI xs (i : Int) = some xs[i] := by
  unfold atI ixN
  rw [if_pos (by omega), if_pos (by omega)]
  simp [h]
theorem joinT_nil : ∀ ss : List (List Nat), joinT [] ss = ss.flatten
  | [] => rfl
  | [x] => by simp [joinT]
  | x :: y :: r => by
    simp only [joinT, joinT_nil (y :: r)]
    simp
theorem one_signs (s : List Nat) : (s.map fun c => [c]).flatten = s := by
  induction s with
  | nil => rfl
  | cons c s ih => simp [ih]
end Mn
end

section
set_option autoImplicit false
set_option linter.all false
set_option maxRecDepth 100000
set_option maxHeartbeats 4000000
namespace Mn
/-- keys that are numbers, what each holds -/
def kvF (as : List Int) (f : Int → D) : List (Ky × D) := as.map fun a => (Sum.inl a, f a)
@[simp] theorem kvF_length {as : List Int} {f : Int → D} : (kvF as f).length = as.length := by simp [kvF]
def fupd (f : Int → D) (a : Int) (v : D) : Int → D := fun x => if x = a then v else f x
@[simp] theorem fupd_at {f : Int → D} {a : Int} {v : D} : fupd f a v a = v := by simp [fupd]
/-- ints that g lets through -/
def fI (g : Int → Bool) : D → Option D | .int a => if g a = true then some (.int a) else none | _ => none
@[simp] theorem fI_int {g : Int → Bool} {a : Int} : fI g (.int a) = if g a = true then some (.int a) else none := id rfl
mutual
theorem Res.ext {m m2 : Hm} (e : Ext m m2) : ∀ {d d2 : D}, Res m d d2 → Res m2 d d2
  | _, _, .non => .non
  | _, _, .bl b => .bl b
  | _, _, .int i => .int i
  | _, _, .str s => .str s
  | _, _, .tup h => .tup (Ress.ext e h)
  | _, _, .lst h => .lst (Ress.ext e h)
  | _, _, .ref h1 h2 => .ref (e _ _ h1) (Ress.ext e h2)
theorem Ress.ext {m m2 : Hm} (e : Ext m m2) : ∀ {d d2 : List D}, Ress m d d2 → Ress m2 d d2
  | _, _, .nil => .nil
  | _, _, .cons h1 h2 => .cons (Res.ext e h1) (Ress.ext e h2)
end
def KeepS (l : List Nat) (m m2 : Hm) : Prop := ∀ a o, a ∉ l → m a = some o → m2 a = some o
theorem KeepS.refl {l : List Nat} {m : Hm} : KeepS l m m := fun _ _ _ h => h
theorem KeepS.trans {l : List Nat} {a b c : Hm} (h : KeepS l a b) (h2 : KeepS l b c) : KeepS l a c := fun x o hx e => h2 x o hx (h x o hx e)
theorem KeepS.up {l : List Nat} {m : Hm} {p : Nat} {o : MO} (h : p ∈ l) : KeepS l m (up m p o) := fun x ob hx e => by rw [up_off (fun z => hx (by rw [z]; exact h))]; exact e
theorem Ext.keepS {l : List Nat} {m m2 : Hm} (h : Ext m m2) : KeepS l m m2 := fun x o _ e => h x o e
theorem Keep.keepS {l : List Nat} {p : Nat} {m m2 : Hm} (h : Keep p m m2) (hp : p ∈ l) : KeepS l m m2 := fun x o hx e => h x o (fun z => hx (by rw [z]; exact hp)) e
theorem KeepS.mono {l l2 : List Nat} {m m2 : Hm} (h : KeepS l m m2) (hs : ∀ a ∈ l, a ∈ l2) : KeepS l2 m m2 := fun x o hx e => h x o (fun z => hx (hs x z)) e
theorem KeepS.new {l : List Nat} {m : Hm} {p : Nat} {o : MO} (hp : m p = none) : KeepS l m (Mn.up m p o) := (Ext.new hp).keepS
/-- new cells are no matter to who was there -/
theorem KeepS.drop {l : List Nat} {p : Nat} {m m2 : Hm} (h : KeepS (p :: l) m m2) (hp : m p = none) : KeepS l m m2 := fun x o hx e => h x o (fun z => by
  rcases List.mem_cons.mp z with z | z
  · rw [z, hp] at e; cases e
  · exact hx z) e
theorem KeepS.none {l : List Nat} {m m2 : Hm} {q : Nat} (h : KeepS l m m2) (hq : q ∉ l) (e : m2 q = none) : m q = none := by
  cases z : m q with
  | none => rfl
  | some o => rw [h _ _ hq z] at e; cases e
/-- an instance in the making: its fields, the new cells that they hold -/
structure Mk (m : Hm) (t c : Nat) (fs : List (Nat × D)) (cs : List (Nat × MO)) (m1 : Hm) : Prop where
  i : m1 t = some (.ins c fs)
  k : Keep t m m1
  c : ∀ x ∈ cs, m1 x.1 = some x.2 ∧ m x.1 = none ∧ x.1 ≠ t
  nd : (cs.map (·.1)).Nodup
theorem Mk.start {m : Hm} {t c : Nat} {fs : List (Nat × D)} (h : m t = some (.ins c fs)) : Mk m t c fs [] m := ⟨h, .refl, fun _ h => (nomatch h), .nil⟩
theorem Mk.fld {m m1 : Hm} {t c : Nat} {fs fs2 : List (Nat × D)} {cs : List (Nat × MO)} (z : Mk m t c fs cs m1) : Mk m t c fs2 cs (Mn.up m1 t (.ins c fs2)) :=
  ⟨up_at, z.k.trans .up, fun x hx => ⟨by rw [up_off (z.c x hx).2.2]; exact (z.c x hx).1, (z.c x hx).2⟩, z.nd⟩
theorem Mk.add {m m1 : Hm} {t c p : Nat} {o : MO} {fs fs2 : List (Nat × D)} {cs : List (Nat × MO)} (z : Mk m t c fs cs m1) (hp : m1 p = none) : Mk m t c fs2 ((p, o) :: cs) (Mn.up (Mn.up m1 p o) t (.ins c fs2)) := by
  have hpt : p ≠ t := (ne_new hp z.i).symm
  have hp0 : m p = none := by
    cases e : m p with
    | none => rfl
    | some o2 => rw [z.k _ _ hpt e] at hp; cases hp
  refine ⟨up_at, (z.k.trans (Ext.new hp).keep).trans .up, fun x hx => ?_, ?_⟩
  · rcases List.mem_cons.mp hx with e | e
    · subst e; exact ⟨by rw [up_off hpt, up_at], hp0, hpt⟩
    · exact ⟨by rw [up_off (z.c x e).2.2]; exact get_new hp (z.c x e).1, (z.c x e).2⟩
  · simp only [List.map_cons, List.nodup_cons]
    refine ⟨fun h => ?_, z.nd⟩
    obtain ⟨x, hx, e⟩ := List.mem_map.mp h
    have := (z.c x hx).1
    rw [e, hp] at this
    cases this
theorem Bag.keepS {l : List Nat} {m m2 : Hm} {p k : Nat} (h : Bag m p k) (hp : p ∉ l) (e : KeepS l m m2) : Bag m2 p k := let ⟨a, b, s, h1, h2⟩ := h; ⟨a, b, s, e _ _ hp h1, h2⟩
end Mn
end

section
set_option linter.all false
set_option maxRecDepth 100000
namespace Mn
theorem sorted_any {m : Hm} {P : PD} {a : Nat} {ds : List D} (h : m a = some (.lst ds)) (hn : intsOf ds = none) (hs : sortable ds = true) (q : ∀ p, m p = none → P (.ref p) (up m p (.lst (ds.mergeSort leD)))) : bfW .sorted [.ref a] m P := by
  simp only [bfW, h, hn]
  exact ⟨hs, q⟩
def DT (m : Hm) (a : Nat) (kvs : List (List D × D)) : Prop := m a = some (.dT kvs) ∨ (m a = some (.dK []) ∧ kvs = [])
section
variable {m m2 : Hm} {P : PD} {a : Nat} {kvs : List (List D × D)} {ks : List D}
theorem DT.of (h : DT m a kvs) (e : ∀ o, m a = some o → m2 a = some o) : DT m2 a kvs := h.elim (fun h => .inl (e _ h)) fun h => .inr ⟨e _ h.1, h.2⟩
theorem DT.ext (h : DT m a kvs) (e : Ext m m2) : DT m2 a kvs := h.of fun o => e _ o
theorem DT.keepS {l : List Nat} (h : DT m a kvs) (e : KeepS l m m2) (ha : a ∉ l) : DT m2 a kvs := h.of fun o => e _ o ha
theorem DT.keep {p : Nat} (h : DT m a kvs) (e : Keep p m m2) (ha : a ≠ p) : DT m2 a kvs := h.of fun o => e _ o ha
theorem DT.up : DT (up m a (.dT kvs)) a kvs := .inl up_at
theorem DT.at (h : DT m a kvs) : ∃ o, m a = some o := h.elim (fun h => ⟨_, h⟩) fun h => ⟨_, h.1⟩
theorem DT.ne_new {q : Nat} (h : DT m a kvs) (hq : m q = none) : a ≠ q := fun z => by
  subst z
  obtain ⟨o, h⟩ := h.at
  rw [h] at hq; cases hq
end
end Mn
end

section
set_option Elab.async false
set_option linter.all false
set_option maxRecDepth 100000
set_option maxHeartbeats 4000000
set_option pp.maxSteps 600
namespace Mn.K55
open Mn
variable {n : Nat} {m : Hm} {P : PD} {X : Nat → Hm → Prop}
def isI (a b : Int) : D → Bool | .int i => decide (a ≤ i) && decide (i ≤ b) | _ => false
theorem s_is_whole {x : D} {a b : Int} (hx : nr x = true) : callN T (n + 1) 0 23 [x, .int a, .int b] m P X ↔ P (.bl (isI a b x)) m := by
  rw [call_iff F_is_whole]
  cases x with
  | int i => by_cases h : a ≤ i <;> simp [f_is_whole, start, isI, h]
  | ref _ => cases hx
  | exc _ _ => cases hx
  | _ => simp [f_is_whole, start, isI]
/-- the sum of a cut -/
def sg (ws : List Int) (a b : Int) : Int := ((ws.drop a.toNat).take (b.toNat - a.toNat)).sum
theorem allB {α : Type} {a : Nat} {l : List α} {f : α → Bool} (h : m a = some (.lst (l.map fun x => D.bl (f x)))) : bfW .all [.ref a] m P = P (.bl (l.all f)) m := by
  rw [all_bls (bs := l.map f) (by rw [h, List.map_map]; rfl), List.all_map]
  rfl
/-- things next to one another -/
def pairB {α : Type} (R : α → α → Bool) : List α → Bool
  | a :: b :: r => R a b && pairB R (b :: r)
  | _ => true
theorem range_pairs {α : Type} (d : α) (R : α → α → Bool) : ∀ l : List α, ((List.range (l.length - 1)).all fun k => R (l.getD k d) (l.getD (k + 1) d)) = pairB R l
  | [] => rfl
  | [_] => rfl
  | a :: b :: r => by
    have ih := range_pairs d R (b :: r)
    simp only [List.length_cons, Nat.add_sub_cancel] at ih ⊢
    rw [List.range_succ_eq_map, List.all_cons, List.all_map]
    simp only [List.getD_cons_zero, List.getD_cons_succ, pairB]
    rw [← ih]
    rfl
end Mn.K55
end

section
set_option Elab.async false
set_option linter.all false
set_option maxRecDepth 100000
set_option maxHeartbeats 4000000
set_option pp.maxSteps 600
namespace Mn.K55
open Mn
variable {n : Nat} {m : Hm} {P : PD} {X : Nat → Hm → Prop}
def okc (c : Nat) : Bool := decide (32 ≤ c) && decide (c ≤ 126) && decide (c ≠ 37)
def okn (s : List Nat) : Bool := s.all okc
theorem s_written {s : List Nat} {a b : Int} (hs : s.length < SZ) (post : ∀ m2, Ext m m2 → P (.bl (decide (a ≤ s.length) && decide ((s.length : Int) ≤ b) && okn s)) m2) : callN T (n + 1) 0 28 [.str s, .int a, .int b] m P X := by
  rw [call_iff F_is_written]
  refine ⟨rfl, ?_⟩
  have hs2 : s.length ≤ SZ := Nat.le_of_lt hs
  simp [-Bool.exists_bool, f_is_written, start, hs2]
  by_cases h1 : a ≤ s.length
  · by_cases h2 : (s.length : Int) ≤ b
    · simp [-Bool.exists_bool, h1, h2]
      intro p hp
      refine comp_list s (fun c => .str [c]) (fun c => .bl (okc c)) hp (fun _ _ => trivial) hs (fun c _ m2 acc Q1 Q2 _ h2 q => ?_) fun m3 e h3 => ?_
      · by_cases c1 : 32 ≤ c
        · by_cases c2 : c ≤ 126
          · have c1' : (32 : Int) ≤ c := by omega
            have c2' : (c : Int) ≤ 126 := by omega
            have hq := q m2 ‹_› h2
            by_cases c3 : c = 37
            · subst c3; simpa [wipe, okc] using hq
            · have c3' : ¬ (c : Int) = 37 := by omega
              simp [-Bool.exists_bool, wipe, c1', c2', c3']
              simpa [okc, c1, c2, c3] using hq
          · have c1' : (32 : Int) ≤ c := by omega
            have c2' : ¬ (c : Int) ≤ 126 := by omega
            have hq := q m2 ‹_› h2
            simp [-Bool.exists_bool, wipe, c1', c2']
            simpa [okc, c1, c2] using hq
        · have c1' : ¬ (32 : Int) ≤ c := by omega
          have hq := q m2 ‹_› h2
          simp [-Bool.exists_bool, wipe, c1']
          simpa [okc, c1] using hq
      · have h3 : m3 p = some (.lst ((s.map okc).map D.bl)) := by rw [h3]; simp
        rw [all_bls h3]
        have := post m3 e
        simpa [h1, h2, okn, List.all_map] using this
    · simp [-Bool.exists_bool, h1, h2]
      simpa [h1, h2] using post m (.refl)
  · simp [-Bool.exists_bool, h1]
    simpa [h1] using post m (.refl)
abbrev En := Int × Int × Int × List Nat
def entD (e : En) : D := .tup [.int e.1, .int e.2.1, .int e.2.2.1, .str e.2.2.2]
def enG (s p u : Int) (t : List Nat) : Bool := (isI 0 3 (.int p) && (isI 0 999 (.int s) && isI 0 999 (.int u))) && (decide ((1 : Int) ≤ t.length) && decide ((t.length : Int) ≤ 20) && okn t)
/-- the entry that a thing is -/
def enOf : D → Option En
  | .tup [.int s, .int p, .int u, .str t] => if enG s p u t = true then some (s, p, u, t) else none
  | _ => none
theorem enOf_some {d : D} {e : En} (h : enOf d = some e) : d = entD e ∧ enG e.1 e.2.1 e.2.2.1 e.2.2.2 = true := by
  unfold enOf at h
  split at h
  · split at h
    · rename_i hg
      cases h
      exact ⟨rfl, hg⟩
    · cases h
  · cases h
theorem enOf_entD {e : En} (h : enG e.1 e.2.1 e.2.2.1 e.2.2.2 = true) : enOf (entD e) = some e := by
  simp [enOf, entD, h]
/-- what stands in a log, well or not -/
inductive It (m : Hm) : D → Prop
  | en {s p u : Int} {t : List Nat} : t.length ≤ 100 → okn t = true → It m (.tup [.int s, .int p, .int u, .str t])
  | tup0 : It m (.tup [])
  | tup3 : It m (.tup [.int 0, .int 0, .int 0])
  | non : It m .non
  | str : It m (.str [97])
  | ref {a : Nat} {ds : List D} : m a = some (.lst ds) → D.flats 50 ds = true → ds.length = 4 → It m (.ref a)
theorem It.of {m2 : Hm} {d : D} (h : It m d) (k : ∀ a ds, d = .ref a → m a = some (.lst ds) → m2 a = some (.lst ds)) : It m2 d := by
  cases h with
  | en h1 h2 => exact .en h1 h2
  | tup0 => exact .tup0
  | tup3 => exact .tup3
  | non => exact .non
  | str => exact .str
  | ref h1 h2 h3 => exact .ref (k _ _ rfl h1) h2 h3
theorem It.ext {m2 : Hm} {d : D} (h : It m d) (e : Ext m m2) : It m2 d := h.of fun _ _ _ q => e _ _ q
theorem s_is_entry {d : D} (hd : It m d) (post : ∀ m2, Ext m m2 → P (.bl (enOf d).isSome) m2) : callN T (n + 2) 0 296 [d] m P X := by
  rw [call_iff F_is_entry]
  refine ⟨rfl, ?_⟩
  have hSZ : (100000 : Nat) < SZ := by decide
  have p0 := post m .refl
  cases hd with
  | non => simp [-Bool.exists_bool, f_is_entry, start]; exact p0
  | str => simp [-Bool.exists_bool, f_is_entry, start]; exact p0
  | tup0 => simp [-Bool.exists_bool, f_is_entry, start]; exact p0
  | tup3 => simp [-Bool.exists_bool, f_is_entry, start]; exact p0
  | ref h1 h2 _ => simp [-Bool.exists_bool, f_is_entry, start, h1]; exact p0
  | @en s p u t h1 h2 =>
    have a0 : atI [D.int s, .int p, .int u, .str t] 0 = some (.int s) := rfl
    have a1 : atI [D.int s, .int p, .int u, .str t] 1 = some (.int p) := rfl
    have a2 : atI [D.int s, .int p, .int u, .str t] 2 = some (.int u) := rfl
    have a3 : atI [D.int s, .int p, .int u, .str t] 3 = some (.str t) := rfl
    have e : (enOf (.tup [.int s, .int p, .int u, .str t])).isSome = enG s p u t := by
      unfold enOf
      by_cases h : enG s p u t = true
      · simp [h]
      · simp [h]
    rw [e] at post
    unfold enG at post
    simp [-Bool.exists_bool, f_is_entry, start, a0, a1, a2, a3, F_is_whole]
    rw [s_is_whole (show nr (.int p) = true from rfl)]
    by_cases c1 : isI 0 3 (.int p) = true
    · simp [-Bool.exists_bool, c1, a0, F_is_whole]
      rw [s_is_whole (show nr (.int s) = true from rfl)]
      by_cases c2 : isI 0 999 (.int s) = true
      · simp [-Bool.exists_bool, c2, a2, F_is_whole]
        rw [s_is_whole (show nr (.int u) = true from rfl)]
        by_cases c3 : isI 0 999 (.int u) = true
        · simp [-Bool.exists_bool, c3, a3, F_is_written]
          refine s_written (by omega) fun m2 e2 => ?_
          have := post m2 e2
          simpa [c1, c2, c3] using this
        · have := post m .refl
          simp [-Bool.exists_bool, c3]
          simpa [c1, c2, c3] using this
      · have := post m .refl
        simp [-Bool.exists_bool, c2]
        simpa [c1, c2] using this
    · have := post m .refl
      simp [-Bool.exists_bool, c1]
      simpa [c1] using this
end Mn.K55
end

section
set_option Elab.async false
set_option linter.all false
set_option maxRecDepth 100000
set_option maxHeartbeats 4000000
set_option pp.maxSteps 600
namespace Mn.K55
open Mn
variable {n : Nat} {m : Hm} {P : PD} {X : Nat → Hm → Prop}
def leE (a b : En) : Bool := leD (entD a) (entD b)
theorem natLt_anti : ∀ {s t : List Nat}, natLt s t = false → natLt t s = false → s = t
  | [], [], _, _ => rfl
  | [], _ :: _, h, _ => by simp [natLt] at h
  | _ :: _, [], _, h => by simp [natLt] at h
  | x :: xs, y :: ys, h, h2 => by
    unfold natLt at h h2
    by_cases e : x = y
    · subst e
      rw [if_pos rfl] at h h2
      rw [natLt_anti h h2]
    · rw [if_neg e] at h
      rw [if_neg (Ne.symm e)] at h2
      simp only [decide_eq_false_iff_not] at h h2
      omega
theorem natLt_total : ∀ {s t : List Nat}, natLt s t = false ∨ natLt t s = false
  | [], [] => .inl rfl
  | [], _ :: _ => .inr rfl
  | _ :: _, [] => .inl rfl
  | x :: xs, y :: ys => by
    unfold natLt
    by_cases e : x = y
    · subst e
      rw [if_pos rfl, if_pos rfl]
      exact natLt_total
    · rw [if_neg e, if_neg (Ne.symm e)]
      simp only [decide_eq_false_iff_not]
      omega
theorem natLt_trans : ∀ {s t u : List Nat}, natLt t s = false → natLt u t = false → natLt u s = false
  | [], t, [], _, _ => rfl
  | _ :: _, [], _, h, _ => by simp [natLt] at h
  | [], [], _ :: _, _, h => h
  | [], y :: ys, u :: us, _, _ => rfl
  | x :: xs, y :: ys, [], _, h2 => by simp [natLt] at h2
  | x :: xs, y :: ys, u :: us, h, h2 => by
    unfold natLt at h h2 ⊢
    by_cases e : y = x
    · subst e
      rw [if_pos rfl] at h
      by_cases e2 : u = y
      · subst e2
        rw [if_pos rfl] at h2 ⊢
        exact natLt_trans h h2
      · rw [if_neg e2] at h2 ⊢
        exact h2
    · rw [if_neg e] at h
      by_cases e2 : u = y
      · subst e2
        rw [if_neg e]
        exact h
      · rw [if_neg e2] at h2
        simp only [decide_eq_false_iff_not] at h h2
        rw [if_neg (by omega)]
        simp only [decide_eq_false_iff_not]
        omega
def LeE (a b : En) : Prop := a.1 < b.1 ∨ (a.1 = b.1 ∧ (a.2.1 < b.2.1 ∨ (a.2.1 = b.2.1 ∧ (a.2.2.1 < b.2.2.1 ∨ (a.2.2.1 = b.2.2.1 ∧ natLt b.2.2.2 a.2.2.2 = false)))))
theorem leE_iff {a b : En} : leE a b = true ↔ LeE a b := by
  obtain ⟨a1, a2, a3, a4⟩ := a
  obtain ⟨b1, b2, b3, b4⟩ := b
  simp only [leE, leD, entD, D.lt, D.lts, D.eqv, LeE]
  by_cases h1 : b1 = a1
  · subst h1
    by_cases h2 : b2 = a2
    · subst h2
      by_cases h3 : b3 = a3
      · subst h3
        by_cases h4 : b4 = a4
        · subst h4
          have : natLt b4 b4 = false := by rcases natLt_total (s := b4) (t := b4) with h | h <;> exact h
          simp [this]
        · simp [h4]
      · simp [h3, Ne.symm h3]; omega
    · simp [h2, Ne.symm h2]; omega
  · simp [h1, Ne.symm h1]; omega
theorem LeE.trans {a b c : En} (h : LeE a b) (h2 : LeE b c) : LeE a c := by
  unfold LeE at *
  rcases h with h | ⟨h, h3 | ⟨h3, h5 | ⟨h5, h7⟩⟩⟩ <;> rcases h2 with h2 | ⟨h2, h4 | ⟨h4, h6 | ⟨h6, h8⟩⟩⟩
  all_goals first
    | (left; omega)
    | (right; refine ⟨by omega, ?_⟩; left; omega)
    | (right; refine ⟨by omega, ?_⟩; right; refine ⟨by omega, ?_⟩; left; omega)
    | (right; refine ⟨by omega, ?_⟩; right; refine ⟨by omega, ?_⟩; right; exact ⟨by omega, natLt_trans h7 h8⟩)
theorem LeE.total (a b : En) : LeE a b ∨ LeE b a := by
  unfold LeE
  have := natLt_total (s := a.2.2.2) (t := b.2.2.2)
  by_cases h1 : a.1 = b.1
  · by_cases h2 : a.2.1 = b.2.1
    · by_cases h3 : a.2.2.1 = b.2.2.1
      · rcases this with h | h
        · right; right; exact ⟨h1.symm, .inr ⟨h2.symm, .inr ⟨h3.symm, h⟩⟩⟩
        · left; right; exact ⟨h1, .inr ⟨h2, .inr ⟨h3, h⟩⟩⟩
      · omega
    · omega
  · omega
theorem LeE.anti {a b : En} (h : LeE a b) (h2 : LeE b a) : a = b := by
  obtain ⟨a1, a2, a3, a4⟩ := a
  obtain ⟨b1, b2, b3, b4⟩ := b
  unfold LeE at *
  simp only at h h2
  have e1 : a1 = b1 := by omega
  have e2 : a2 = b2 := by omega
  have e3 : a3 = b3 := by omega
  subst e1 e2 e3
  have e4 : a4 = b4 := by
    rcases h with h | ⟨_, h | ⟨_, h | ⟨_, h⟩⟩⟩
    · omega
    · omega
    · omega
    · rcases h2 with h2 | ⟨_, h2 | ⟨_, h2 | ⟨_, h2⟩⟩⟩
      · omega
      · omega
      · omega
      · exact natLt_anti h2 h
  rw [e4]
def Srt (l : List En) : Prop := l.Pairwise LeE ∧ l.Nodup
theorem sort_E (l : List En) : (l.mergeSort leE).Pairwise LeE :=
  (List.pairwise_mergeSort (le := leE) (fun a b c h h2 => leE_iff.mpr ((leE_iff.mp h).trans (leE_iff.mp h2))) (fun a b => by
    rw [Bool.or_eq_true, leE_iff, leE_iff]
    exact LeE.total a b) l).imp fun h => leE_iff.mp h
theorem srt_eq {a b : List En} (ha : Srt a) (hb : Srt b) (h : ∀ e, e ∈ a ↔ e ∈ b) : a = b :=
  List.Perm.eq_of_pairwise (le := LeE) (fun _ _ _ _ h1 h2 => h1.anti h2) ha.1 hb.1 ((List.perm_ext_iff_of_nodup ha.2 hb.2).mpr h)
def ltE (a b : En) : Bool := D.lts [.int a.1, .int a.2.1, .int a.2.2.1, .str a.2.2.2] [.int b.1, .int b.2.1, .int b.2.2.1, .str b.2.2.2]
theorem ltE_iff {a b : En} : ltE a b = true ↔ ¬ LeE b a := by
  rw [← leE_iff]
  unfold leE leD ltE entD
  simp only [D.lt, Bool.not_eq_true', Bool.not_eq_true, Bool.not_eq_false]
theorem not_le {a b : En} (h : ¬ LeE b a) : LeE a b ∧ a ≠ b := by
  rcases LeE.total a b with k | k
  · refine ⟨k, fun e => h ?_⟩
    subst e
    exact k
  · exact absurd k h
theorem risE_srt : ∀ l : List En, pairB ltE l = true ↔ Srt l
  | [] => ⟨fun _ => ⟨.nil, .nil⟩, fun _ => rfl⟩
  | [_] => ⟨fun _ => ⟨by simp, by simp⟩, fun _ => rfl⟩
  | a :: b :: r => by
    have ih := risE_srt (b :: r)
    show (ltE a b && pairB ltE (b :: r)) = true ↔ _
    rw [Bool.and_eq_true, ih, ltE_iff]
    constructor
    · rintro ⟨h, h1, h2⟩
      obtain ⟨k1, k2⟩ := not_le h
      refine ⟨List.pairwise_cons.mpr ⟨fun x hx => ?_, h1⟩, List.nodup_cons.mpr ⟨fun hm => ?_, h2⟩⟩
      · rcases List.mem_cons.mp hx with e | hx
        · rw [e]; exact k1
        · exact k1.trans ((List.pairwise_cons.mp h1).1 x hx)
      · rcases List.mem_cons.mp hm with e | hm
        · exact k2 e
        · exact h ((List.pairwise_cons.mp h1).1 a hm)
    · rintro ⟨h1, h2⟩
      obtain ⟨p1, p2⟩ := List.pairwise_cons.mp h1
      obtain ⟨n1, n2⟩ := List.nodup_cons.mp h2
      exact ⟨fun z => n1 (by rw [(p1 b List.mem_cons_self).anti z]; exact List.mem_cons_self), p2, n2⟩
/-- an entry whose text is a text -/
def TxP (e : En) : Prop := pln e.2.2.2 = true
theorem flat_entD {k : Nat} {e : En} (h : TxP e) : D.flat (k + 2) (entD e) = true := by
  have : D.flat (k + 1) (.str e.2.2.2) = true := h
  simp [entD, D.flat, D.flats]
  exact List.all_eq_true.mp h |> fun q => by simpa using q
theorem flats_entD {k : Nat} : ∀ {es : List En}, (∀ e ∈ es, TxP e) → D.flats (k + 2) (es.map entD) = true
  | [], _ => rfl
  | e :: es, h => by
    simp only [List.map_cons, D.flats, Bool.and_eq_true]
    exact ⟨flat_entD (h e List.mem_cons_self), flats_entD fun x hx => h x (List.mem_cons_of_mem _ hx)⟩
theorem eqv_entD {a c : En} : D.eqv (entD a) (entD c) = decide (a = c) := by
  obtain ⟨a1, a2, a3, a4⟩ := a
  obtain ⟨c1, c2, c3, c4⟩ := c
  simp only [entD, D.eqv, D.eqvs, List.isEmpty_nil, Bool.and_true]
  rw [Bool.eq_iff_iff]
  simp [Prod.ext_iff]
theorem sortable_entD {es : List En} (h : ∀ e ∈ es, TxP e) (hl : es.length ≤ 1000) : sortable (es.map entD) = true := by
  have hSZ : (100000 : Nat) < SZ := by decide
  simp only [sortable, Bool.and_eq_true, Bool.or_eq_true, decide_eq_true_eq, List.all_eq_true, List.length_map]
  refine ⟨⟨⟨.inl fun d hd => ?_, fun d hd e he => ?_⟩, flats_entD (k := 57) h⟩, by omega⟩
  · obtain ⟨x, _, rfl⟩ := List.mem_map.mp hd; rfl
  · obtain ⟨x, _, rfl⟩ := List.mem_map.mp hd
    obtain ⟨y, _, rfl⟩ := List.mem_map.mp he
    rfl
theorem sort_entD {es : List En} : (es.map entD).mergeSort leD = (es.mergeSort leE).map entD :=
  (List.map_mergeSort (r := leE) (s := leD) (f := entD) (l := es) (fun a _ b _ => rfl)).symm
theorem sorted_entD {a : Nat} {es : List En} (h : m a = some (.lst (es.map entD))) (ht : ∀ e ∈ es, TxP e) (hl : es.length ≤ 1000) (q : ∀ p, m p = none → P (.ref p) (up m p (.lst ((es.mergeSort leE).map entD)))) : bfW .sorted [.ref a] m P := by
  cases es with
  | nil =>
    simp only [bfW, h]
    intro p hp
    simpa using q p hp
  | cons e es =>
    refine sorted_any h rfl (sortable_entD ht hl) fun p hp => ?_
    rw [sort_entD]
    exact q p hp
end Mn.K55
end

section
set_option Elab.async false
set_option linter.all false
set_option maxRecDepth 100000
set_option maxHeartbeats 4000000
set_option pp.maxSteps 600
namespace Mn.K55
open Mn
variable {n : Nat} {m m2 : Hm} {P : PD} {X : Nat → Hm → Prop}
theorem okn_pln {t : List Nat} (h : okn t = true) : pln t = true := by
  unfold okn at h
  unfold pln
  rw [List.all_eq_true] at h ⊢
  intro c hc
  have := h c hc
  unfold okc at this
  simp only [Bool.and_eq_true, decide_eq_true_eq] at this ⊢
  omega
/-- the entries that a list's items are -/
def ensOf : List D → Option (List En)
  | [] => some []
  | d :: ds => match enOf d, ensOf ds with | some e, some es => some (e :: es) | _, _ => none
/-- the entry is well -/
def EnG (e : En) : Prop := enG e.1 e.2.1 e.2.2.1 e.2.2.2 = true
theorem EnG.tx {e : En} (h : EnG e) : okn e.2.2.2 = true := by
  unfold EnG enG at h
  simp only [Bool.and_eq_true] at h
  exact h.2.2
theorem EnG.txP {e : En} (h : EnG e) : TxP e := okn_pln h.tx
theorem ensOf_some : ∀ {ds : List D} {es : List En}, ensOf ds = some es → ds = es.map entD ∧ ∀ e ∈ es, EnG e
  | [], _, h => by cases h; exact ⟨rfl, fun _ h => nomatch h⟩
  | d :: ds, _, h => by
    unfold ensOf at h
    split at h
    · rename_i e es h1 h2
      cases h
      obtain ⟨a1, a2⟩ := enOf_some h1
      obtain ⟨b1, b2⟩ := ensOf_some h2
      refine ⟨by rw [a1, b1]; rfl, fun x hx => ?_⟩
      rcases List.mem_cons.mp hx with z | z
      · rw [z]; exact a2
      · exact b2 x z
    · cases h
theorem ensOf_map : ∀ {es : List En}, (∀ e ∈ es, EnG e) → ensOf (es.map entD) = some es
  | [], _ => rfl
  | e :: es, h => by
    show (match enOf (entD e), ensOf (es.map entD) with | some e, some es => some (e :: es) | _, _ => none) = _
    rw [enOf_entD (h e List.mem_cons_self), ensOf_map fun x hx => h x (List.mem_cons_of_mem _ hx)]
theorem ensOf_none : ∀ {ds : List D}, ensOf ds = none ↔ (ds.all fun d => (enOf d).isSome) = false
  | [] => by simp [ensOf]
  | d :: ds => by
    have ih := ensOf_none (ds := ds)
    unfold ensOf
    rw [List.all_cons]
    cases h1 : enOf d with
    | none => simp
    | some e =>
      cases h2 : ensOf ds with
      | none => simpa using ih.mp h2
      | some es =>
        rw [h2] at ih
        simp only [reduceCtorEq, false_iff, Bool.not_eq_false] at ih
        simp [ih]
def lgD (ds : List D) : Option (List En) := match ensOf ds with | some es => if pairB ltE es = true then some es else none | none => none
/-- the log that a thing is -/
def lgOf (m : Hm) (x : D) : Option (List En) := match x with | .ref q => (match m q with | some (.lst ds) => lgD ds | _ => none) | _ => none
theorem lgOf_ref {q : Nat} {ds : List D} (h : m q = some (.lst ds)) : lgOf m (.ref q) = lgD ds := by simp [lgOf, h]
/-- a log, or what is none -/
inductive Th (m : Hm) : D → Prop
  | non : Th m .non
  | tup {ds : List D} : ds.length ≤ 20 → (∀ d ∈ ds, It m d) → Th m (.tup ds)
  | ref {q : Nat} {ds : List D} : m q = some (.lst ds) → ds.length ≤ 20 → (∀ d ∈ ds, It m d) → Th m (.ref q)
/-- what a thing hangs on -/
def lk (m m2 : Hm) (x : D) : Prop := Th m x → Th m2 x ∧ lgOf m2 x = lgOf m x
theorem Th.of {x : D} (h : Th m x) (k : ∀ a ds, m a = some (.lst ds) → m2 a = some (.lst ds)) : Th m2 x ∧ lgOf m2 x = lgOf m x := by
  cases h with
  | non => exact ⟨.non, rfl⟩
  | tup h1 h2 => exact ⟨.tup h1 fun d hd => (h2 d hd).of fun a ds _ q => k a ds q, rfl⟩
  | ref h0 h1 h2 => exact ⟨.ref (k _ _ h0) h1 fun d hd => (h2 d hd).of fun a ds _ q => k a ds q, by rw [lgOf_ref h0, lgOf_ref (k _ _ h0)]⟩
theorem Th.ext {x : D} (h : Th m x) (e : Ext m m2) : Th m2 x := (h.of fun a ds q => e _ _ q).1
theorem lg_ext {x : D} (h : Th m x) (e : Ext m m2) : lgOf m2 x = lgOf m x := (h.of fun a ds q => e _ _ q).2
theorem lt_ents {a b : En} (ha : TxP a) (hb : TxP b) : cmpW .lt (entD a) (entD b) m P = P (.bl (ltE a b)) m := by
  have h : cmpOk [D.int a.1, .int a.2.1, .int a.2.2.1, .str a.2.2.2] [D.int b.1, .int b.2.1, .int b.2.2.1, .str b.2.2.2] = true := by
    have fa : D.flat 59 (.str a.2.2.2) = true := ha
    have fb : D.flat 59 (.str b.2.2.2) = true := hb
    have ga : D.flats 59 [D.int a.1, .int a.2.1, .int a.2.2.1, .str a.2.2.2] = true := by simp only [D.flats, fa]; rfl
    have gb : D.flats 59 [D.int b.1, .int b.2.1, .int b.2.2.1, .str b.2.2.2] = true := by simp only [D.flats, fb]; rfl
    unfold cmpOk
    rw [ga, gb]
    rfl
  show ordW .lt (entD a) (entD b) m P = _
  unfold entD ordW ltE
  simp only [h, true_and]
theorem s_rises_ents {q : Nat} {es : List En} (hq : m q = some (.lst (es.map entD))) (ht : ∀ e ∈ es, TxP e) (hl : es.length ≤ 1000) (post : ∀ m2, Ext m m2 → P (.bl (pairB ltE es)) m2) : callN T (n + 1) 0 25 [.ref q] m P X := by
  rw [call_iff F_rises]
  refine ⟨rfl, ?_⟩
  have hSZ : (100000 : Nat) < SZ := by decide
  have hb : inB ((es.length : Int) - 1) := ⟨by omega, by omega⟩
  simp [-Bool.exists_bool, f_rises, start, hb, len_ref hq, List.length_map]
  intro p hp1
  rw [rangeD_map]
  have hqp : q ≠ p := ne_new hp1 hq
  refine comp_list (List.range (es.length - 1)) (fun i => D.int (i : Nat)) (fun k => .bl (ltE (es.getD k default) (es.getD (k + 1) default))) hp1 (fun _ _ => trivial) (by rw [List.length_range]; omega) (fun i hi m2 acc Q1 Q2 k2 h2 post2 => ?_) fun m3 e h3 => ?_
  · have hi := List.mem_range.mp hi
    have q2 := k2 _ _ hqp hq
    have e1 : atI (es.map entD) (i : Int) = some (entD (es.getD i default)) := by
      rw [atI_nat (by rw [List.length_map]; omega)]
      simp [List.getD_eq_getElem?_getD, show i < es.length by omega]
    have e2 : atI (es.map entD) ((i : Int) + 1) = some (entD (es.getD (i + 1) default)) := by
      rw [show (i : Int) + 1 = ((i + 1 : Nat) : Int) by omega, atI_nat (by rw [List.length_map]; omega)]
      simp [List.getD_eq_getElem?_getD, show i + 1 < es.length by omega]
    have tx : ∀ j, j < es.length → TxP (es[j]?.getD default) := fun j hj => ht _ (by
      rw [List.getElem?_eq_getElem hj]
      exact List.getElem_mem hj)
    simp [-Bool.exists_bool, wipe, x_ref q2, e1, e2]
    rw [lt_ents (tx i (by omega)) (tx (i + 1) (by omega))]
    exact post2 m2 k2 h2
  · rw [allB h3, range_pairs default ltE es]
    exact post m3 e
theorem s_is_log {x : D} (hx : Th m x) (post : ∀ m2, Ext m m2 → P (.bl (lgOf m x).isSome) m2) : callN T (n + 3) 0 297 [x] m P X := by
  rw [call_iff F_is_log]
  refine ⟨rfl, ?_⟩
  have hSZ : (100000 : Nat) < SZ := by decide
  cases hx with
  | non => simp [-Bool.exists_bool, f_is_log, start]; exact post m .refl
  | tup _ _ => simp [-Bool.exists_bool, f_is_log, start]; exact post m .refl
  | @ref q ds hq hl hi =>
    simp [-Bool.exists_bool, f_is_log, start, hq, F_is_entry]
    rw [walk_ref hq]
    intro p hp
    have hqp : q ≠ p := ne_new hp hq
    rw [← List.map_id ds]
    refine comp_list ds id (fun d => .bl (enOf d).isSome) hp (fun m1 k => by rw [List.map_id]; exact k _ _ hqp hq) (by omega) (fun d hd m2 acc Q1 Q2 k2 h2 post2 => ?_) fun m3 e h3 => ?_
    · simp [-Bool.exists_bool, wipe, id]
      refine s_is_entry ((hi d hd).of fun a ds2 _ ha => k2 _ _ (ne_new hp ha) ha) fun m4 e4 => post2 m4 (k2.trans e4.keep) (e4 _ _ h2)
    · rw [allB h3]
      rw [lgOf_ref hq] at post
      unfold lgD at post
      cases he : ensOf ds with
      | none =>
        rw [ensOf_none.mp he]
        rw [he] at post
        simp [-Bool.exists_bool]
        exact post m3 e
      | some es =>
        have h4 : (ds.all fun d => (enOf d).isSome) = true := by
          cases h : ds.all fun d => (enOf d).isSome with
          | true => rfl
          | false => rw [ensOf_none.mpr h] at he; cases he
        rw [h4]
        rw [he] at post
        obtain ⟨rfl, hg⟩ := ensOf_some he
        simp [-Bool.exists_bool, F_rises]
        rw [List.length_map] at hl
        refine s_rises_ents (e _ _ hq) (fun x hx => (hg x hx).txP) (by omega) fun m4 e4 => ?_
        have := post m4 (e.trans e4)
        cases h5 : pairB ltE es with
        | true => simpa [h5] using this
        | false => simpa [h5] using this
end Mn.K55
end

section
set_option Elab.async false
set_option linter.all false
set_option maxRecDepth 100000
set_option maxHeartbeats 4000000
set_option pp.maxSteps 600
namespace Mn.K55
open Mn
variable {n : Nat} {m m2 : Hm} {P : PD} {X : Nat → Hm → Prop}
/-- whether the law lets a thing pass as an entry -/
theorem enOf_en {s p u : Int} {t : List Nat} (ht : okn t = true) : (enOf (.tup [.int s, .int p, .int u, .str t])).isSome = ((decide (1 ≤ t.length) && decide (t.length ≤ 20)) && ((isI 0 999 (.int s) && (isI 0 999 (.int p) && isI 0 999 (.int u))) && decide (p ≤ 3))) := by
  have e : (enOf (.tup [.int s, .int p, .int u, .str t])).isSome = enG s p u t := by
    unfold enOf
    by_cases h : enG s p u t = true
    · simp [h]
    · simp [h]
  rw [e]
  unfold enG
  simp only [ht, Bool.and_true]
  rw [Bool.eq_iff_iff]
  simp only [Bool.and_eq_true, decide_eq_true_eq, isI]
  omega
theorem s_law_is_log {x : D} (hx : Th m x) (post : ∀ m2, Ext m m2 → P (.bl (lgOf m x).isSome) m2) : callN T (n + 1) 0 358 [x] m P X := by
  rw [call_iff F_law_is_log]
  refine ⟨rfl, ?_⟩
  have hSZ : (100000 : Nat) < SZ := by decide
  unfold f_law_is_log start
  simp only [List.map, List.length, List.replicate, List.cons_append, List.nil_append]
  cases hx with
  | non =>
    refine seq_to (fun _ _ => False) (fun nx hn => ?_) (fun _ _ h => h.elim)
    simp [-Bool.exists_bool]
    exact post m .refl
  | tup _ _ =>
    refine seq_to (fun _ _ => False) (fun nx hn => ?_) (fun _ _ h => h.elim)
    simp [-Bool.exists_bool]
    exact post m .refl
  | @ref q ds hq hl hi =>
    rw [lgOf_ref hq] at post
    refine seq_eq [some (.ref q), none, none, none] m (fun nx hn => by simp [-Bool.exists_bool, hq]; exact hn) ?_
    refine seq_to (fun r1 m1 => ∃ z, r1 = [some (.ref q), z, none, none] ∧ Ext m m1 ∧ (ds.all fun d => (enOf d).isSome) = true) (fun nx hn => ?_) ?_
    · refine fr_shut fun B hB => ?_
      simp [-Bool.exists_bool]
      rw [walk_ref hq]
      refine loop_inv (fun k r m1 => ∃ z, r = [some (.ref q), z, none, none] ∧ Ext m m1 ∧ ((ds.take k).all fun d => (enOf d).isSome) = true) (k := 0) ⟨none, rfl, .refl, rfl⟩ (fun i d r m1 Q hd ⟨z, er, e1, al⟩ hQ => ⟨e1 _ _ hq, ?_⟩) fun r m1 ⟨z, er, e1, al⟩ => ⟨e1 _ _ hq, hn _ _ ⟨z, er, e1, by simpa using al⟩⟩
      subst er
      have hdm : d ∈ ds := List.mem_of_getElem? hd
      have no : (enOf d).isSome = false → ∀ m2, Ext m m2 → P (.bl false) m2 := fun h m2 e2 => by
        have := post m2 e2
        unfold lgD at this
        rw [ensOf_none.mpr (by
          cases h2 : ds.all fun d => (enOf d).isSome with
          | false => rfl
          | true => rw [List.all_eq_true.mp h2 d hdm] at h; cases h)] at this
        exact this
      have yes : (enOf d).isSome = true → ∀ m2, Ext m1 m2 → Q [some (.ref q), some d, none, none] m2 := fun h m2 e2 => hQ _ _ ⟨some d, rfl, e1.trans e2, by
        simp only [Nat.zero_add] at al ⊢
        rw [List.take_succ, hd, List.all_append, al]
        simpa using h⟩
      rw [hB]
      cases hi d hdm with
      | non =>
        refine seq_to (fun _ _ => False) (fun nx hn => ?_) (fun _ _ h => h.elim)
        simp [-Bool.exists_bool]
        exact no rfl m1 e1
      | str =>
        refine seq_to (fun _ _ => False) (fun nx hn => ?_) (fun _ _ h => h.elim)
        simp [-Bool.exists_bool]
        exact no rfl m1 e1
      | tup0 =>
        refine seq_to (fun _ _ => False) (fun nx hn => ?_) (fun _ _ h => h.elim)
        simp [-Bool.exists_bool]
        exact no rfl m1 e1
      | tup3 =>
        refine seq_to (fun _ _ => False) (fun nx hn => ?_) (fun _ _ h => h.elim)
        simp [-Bool.exists_bool]
        exact no rfl m1 e1
      | ref h1 h2 _ =>
        refine seq_to (fun _ _ => False) (fun nx hn => ?_) (fun _ _ h => h.elim)
        simp [-Bool.exists_bool, e1 _ _ h1]
        exact no rfl m1 e1
      | @en s p u t h1 h2 =>
        have a1 : atI [D.int s, .int p, .int u, .str t] 1 = some (.int p) := rfl
        have a3 : atI [D.int s, .int p, .int u, .str t] 3 = some (.str t) := rfl
        have c3 : cut [D.int s, .int p, .int u, .str t] none (some 3) = [.int s, .int p, .int u] := rfl
        have hs := enOf_en (s := s) (p := p) (u := u) h2
        let E : Mn.Env := [some (.ref q), some (.tup [.int s, .int p, .int u, .str t]), none, none]
        have tl : t.length ≤ SZ := by omega
        by_cases k1 : 1 ≤ t.length ∧ t.length ≤ 20
        · refine seq_eq E m1 (fun nx hn => ?_) ?_
          · have d1 : (1 : Int) ≤ t.length := by omega
            have d2 : (t.length : Int) ≤ 20 := by omega
            simp [-Bool.exists_bool, a3, d1, d2, tl]
            exact hn
          have hk : (decide (1 ≤ t.length) && decide (t.length ≤ 20)) = true := by simp [k1]
          rw [hk, Bool.true_and] at hs
          refine seq_to (fun r1 m2 => r1 = E ∧ Ext m1 m2 ∧ (isI 0 999 (.int s) && (isI 0 999 (.int p) && isI 0 999 (.int u))) = true) (fun nx hn => ?_) ?_
          · simp [-Bool.exists_bool, E, c3]
            intro w hw
            refine comp_list [s, p, u] D.int (fun i => .bl (isI 0 999 (.int i))) hw (fun _ _ => trivial) (by show 3 < SZ; omega) (fun i hi m2 acc Q1 Q2 k2 h2 q2 => ?_) fun m3 e3 h3 => ?_
            · have := q2 m2 k2 h2
              by_cases c1 : 0 ≤ i
              · simp [-Bool.exists_bool, wipe, c1]
                simpa [isI, c1] using this
              · simp [-Bool.exists_bool, wipe, c1]
                simpa [isI, c1] using this
            · rw [allB h3]
              cases h4 : [s, p, u].all fun i => isI 0 999 (.int i) with
              | true =>
                simp [-Bool.exists_bool]
                exact hn _ _ ⟨rfl, e3, by simpa [List.all_cons] using h4⟩
              | false =>
                simp [-Bool.exists_bool]
                refine no ?_ m3 (e1.trans e3)
                rw [hs]
                have : (isI 0 999 (.int s) && (isI 0 999 (.int p) && isI 0 999 (.int u))) = false := by simpa [List.all_cons] using h4
                rw [this]; rfl
          rintro _ m2 ⟨rfl, e2, h5⟩
          rw [h5, Bool.true_and] at hs
          refine seq_to (fun r1 m3 => r1 = E ∧ m3 = m2 ∧ p ≤ 3) (fun nx hn => ?_) ?_
          · by_cases h6 : p ≤ 3
            · have h7 : ¬ 3 < p := by omega
              simp [-Bool.exists_bool, E, a1, h7]
              exact hn _ _ ⟨rfl, rfl, h6⟩
            · have h7 : 3 < p := by omega
              simp [-Bool.exists_bool, E, a1, h7]
              exact no (by rw [hs]; simp [h6]) m2 (e1.trans e2)
          rintro _ m3 ⟨rfl, rfl, h6⟩
          simp [-Bool.exists_bool, E]
          exact yes (by rw [hs]; simp [h6]) _ e2
        · refine seq_to (fun _ _ => False) (fun nx hn => ?_) (fun _ _ h => h.elim)
          have n0 := no (by
            rw [hs]
            have : (decide (1 ≤ t.length) && decide (t.length ≤ 20)) = false := by
              rw [Bool.eq_false_iff]
              intro z
              simp only [Bool.and_eq_true, decide_eq_true_eq] at z
              exact k1 z
            rw [this]; rfl) m1 e1
          by_cases d1 : (1 : Int) ≤ t.length
          · have d2 : ¬ (t.length : Int) ≤ 20 := by omega
            simp [-Bool.exists_bool, a3, d1, d2, tl]
            exact n0
          · simp [-Bool.exists_bool, a3, d1, tl]
            exact n0
    rintro _ m1 ⟨z, rfl, e1, al⟩
    unfold lgD at post
    cases he : ensOf ds with
    | none => rw [ensOf_none.mp he] at al; cases al
    | some es =>
      rw [he] at post
      obtain ⟨rfl, hg⟩ := ensOf_some he
      rw [List.length_map] at hl
      have q1 := e1 _ _ hq
      have hb : inB ((es.length : Int) - 1) := ⟨by omega, by omega⟩
      simp [-Bool.exists_bool, hb, len_ref q1, List.length_map]
      intro p hp1
      rw [rangeD_map]
      have hqp : q ≠ p := ne_new hp1 q1
      refine comp_list (List.range (es.length - 1)) (fun i => D.int (i : Nat)) (fun k => .bl (ltE (es.getD k default) (es.getD (k + 1) default))) hp1 (fun _ _ => trivial) (by rw [List.length_range]; omega) (fun i hi m2 acc Q1 Q2 k2 h2 post2 => ?_) fun m3 e h3 => ?_
      · have hi := List.mem_range.mp hi
        have q2 := k2 _ _ hqp q1
        have e1 : atI (es.map entD) (i : Int) = some (entD (es.getD i default)) := by
          rw [atI_nat (by rw [List.length_map]; omega)]
          simp [List.getD_eq_getElem?_getD, show i < es.length by omega]
        have e2 : atI (es.map entD) ((i : Int) + 1) = some (entD (es.getD (i + 1) default)) := by
          rw [show (i : Int) + 1 = ((i + 1 : Nat) : Int) by omega, atI_nat (by rw [List.length_map]; omega)]
          simp [List.getD_eq_getElem?_getD, show i + 1 < es.length by omega]
        have tx : ∀ j, j < es.length → TxP (es[j]?.getD default) := fun j hj => (hg _ (by
          rw [List.getElem?_eq_getElem hj]
          exact List.getElem_mem hj)).txP
        simp [-Bool.exists_bool, wipe, x_ref q2, e1, e2]
        rw [lt_ents (tx i (by omega)) (tx (i + 1) (by omega))]
        exact post2 m2 k2 h2
      · rw [allB h3, range_pairs default ltE es]
        have := post m3 (e1.trans e)
        cases h5 : pairB ltE es with
        | true => simpa [h5] using this
        | false => simpa [h5] using this
end Mn.K55
end

section
set_option Elab.async false
set_option linter.all false
set_option maxRecDepth 100000
set_option maxHeartbeats 4000000
set_option pp.maxSteps 600
namespace Mn.K55
open Mn
variable {n : Nat} {m m2 : Hm} {P : PD} {X : Nat → Hm → Prop}
theorem unlL_snoc {α : Type} [DecidableEq α] {l : List α} {x : α} : unlL (l ++ [x]) = if x ∈ unlL l then unlL l else unlL l ++ [x] := by
  unfold unlL
  rw [List.foldl_append]
  rfl
theorem unlL_len {α : Type} [DecidableEq α] (l : List α) : (unlL l).length ≤ l.length ∧ ((unlL l).length = l.length ↔ l.Nodup) := by
  have key : ∀ (r l : List α), ((unlL l).length ≤ l.length ∧ ((unlL l).length = l.length ↔ l.Nodup)) → ((unlL (l ++ r)).length ≤ (l ++ r).length ∧ ((unlL (l ++ r)).length = (l ++ r).length ↔ (l ++ r).Nodup)) := by
    intro r
    induction r with
    | nil => intro l h; simpa using h
    | cons x r ih =>
      intro l h
      have := ih (l ++ [x]) ?_
      · simpa using this
      obtain ⟨h1, h2⟩ := h
      have hm := (unlL_spec l).2 x
      rw [unlL_snoc]
      by_cases hx : x ∈ unlL l
      · rw [if_pos hx]
        have hxl := hm.mp hx
        refine ⟨by rw [List.length_append]; omega, ?_⟩
        constructor
        · intro h
          rw [List.length_append, List.length_cons, List.length_nil] at h
          omega
        · intro h
          rw [List.nodup_append] at h
          exact absurd rfl (h.2.2 x hxl x (by simp))
      · rw [if_neg hx]
        have hxl : x ∉ l := fun z => hx (hm.mpr z)
        refine ⟨by simp only [List.length_append, List.length_cons, List.length_nil]; omega, ?_⟩
        simp only [List.length_append, List.length_cons, List.length_nil]
        constructor
        · intro h
          have := h2.mp (by omega)
          rw [List.nodup_append]
          exact ⟨this, by simp, fun a ha b hb e => by simp at hb; subst hb; subst e; exact hxl ha⟩
        · intro h
          rw [List.nodup_append] at h
          have := h2.mpr h.1
          omega
  have := key l [] ⟨Nat.le_refl _, ⟨fun _ => .nil, fun _ => rfl⟩⟩
  simpa using this
def kI (e : En) : List Int := [e.2.1, e.2.2.1]
theorem tupIs_k : ∀ l : List En, tupIs (l.map fun e => D.tup [.int e.2.1, .int e.2.2.1]) = some (l.map kI)
  | [] => rfl
  | e :: l => by
    have ih := tupIs_k l
    simp only [List.map_cons, tupIs, ih, intsOf]
    rfl
/-- whether a log is one joined with another -/
def jB (a b c : List En) : Bool := decide ((c.map kI).Nodup) && ((a.all fun e => decide (e ∈ c)) && (b.all fun e => decide (e ∈ c)) && c.all fun e => (decide (e ∈ a) || decide (e ∈ b)))
def jx (m : Hm) (x y z : D) : Bool := match lgOf m x, lgOf m y, lgOf m z with | some a, some b, some c => jB a b c | _, _, _ => false
structure LgAt (m : Hm) (x : D) (es : List En) : Prop where
  at_ : ∃ q, x = .ref q ∧ m q = some (.lst (es.map entD))
  g : ∀ e ∈ es, EnG e
  s : Srt es
  l : es.length ≤ 20
theorem lgOf_some {x : D} {es : List En} (hx : Th m x) (h : lgOf m x = some es) : LgAt m x es := by
  cases hx with
  | non => cases h
  | tup _ _ => cases h
  | @ref q ds hq hl hi =>
    rw [lgOf_ref hq] at h
    unfold lgD at h
    split at h
    · rename_i es2 he
      split at h
      · rename_i hr
        cases h
        obtain ⟨rfl, hg⟩ := ensOf_some he
        exact ⟨⟨q, rfl, hq⟩, hg, (risE_srt _).mp hr, by simpa using hl⟩
      · cases h
    · cases h
theorem in_ents {q : Nat} {x : En} {es : List En} (hq : m q = some (.lst (es.map entD))) (hx : TxP x) (he : ∀ e ∈ es, TxP e) (post : P (.bl (decide (x ∈ es))) m) : cmpW .in_ (entD x) (.ref q) m P := by
  rw [in_eq]
  refine in_flat hq (flat_entD (k := 58) hx) (flats_entD (k := 58) he) ?_
  have e : ((es.map entD).any fun z => D.eqv z (entD x)) = decide (x ∈ es) := by
    rw [Bool.eq_iff_iff]
    simp only [List.any_eq_true, List.mem_map, decide_eq_true_eq]
    constructor
    · rintro ⟨_, ⟨e, he, rfl⟩, h⟩
      rw [eqv_entD, decide_eq_true_eq] at h
      rw [← h]; exact he
    · intro h
      exact ⟨_, ⟨x, h, rfl⟩, by rw [eqv_entD]; simp⟩
  rw [e]
  simpa using post
theorem s_are_joined {x y z : D} (hx : Th m x) (hy : Th m y) (hz : Th m z) (post : ∀ m2, Ext m m2 → P (.bl (jx m x y z)) m2) : callN T (n + 4) 0 298 [x, y, z] m P X := by
  rw [call_iff F_are_joined]
  refine ⟨rfl, ?_⟩
  have hSZ : (100000 : Nat) < SZ := by decide
  unfold f_are_joined start
  simp only [List.map, List.length, List.replicate, List.cons_append, List.nil_append]
  refine seq_to (fun r1 m1 => r1 = [some x, some y, some z, none] ∧ Ext m m1 ∧ ∃ a b c, lgOf m x = some a ∧ lgOf m y = some b ∧ lgOf m z = some c) (fun nx hn => ?_) ?_
  · simp [-Bool.exists_bool, F_is_log]
    refine s_is_log hx fun m1 e1 => ?_
    cases hA : lgOf m x with
    | none =>
      have := post m1 e1
      unfold jx at this
      rw [hA] at this
      simp [-Bool.exists_bool]
      exact this
    | some a =>
      simp [-Bool.exists_bool, F_is_log]
      refine s_is_log (hy.ext e1) fun m2 e2 => ?_
      rw [lg_ext hy e1]
      cases hB : lgOf m y with
      | none =>
        have := post m2 (e1.trans e2)
        unfold jx at this
        rw [hA, hB] at this
        simp [-Bool.exists_bool]
        exact this
      | some b =>
        simp [-Bool.exists_bool, F_is_log]
        refine s_is_log (hz.ext (e1.trans e2)) fun m3 e3 => ?_
        rw [lg_ext hz (e1.trans e2)]
        cases hC : lgOf m z with
        | none =>
          have := post m3 ((e1.trans e2).trans e3)
          unfold jx at this
          rw [hA, hB, hC] at this
          simp [-Bool.exists_bool]
          exact this
        | some c =>
          simp [-Bool.exists_bool]
          exact hn _ _ ⟨rfl, (e1.trans e2).trans e3, a, b, c, hA, hB, hC⟩
  rintro _ m1 ⟨rfl, e1, a, b, c, hA, hB, hC⟩
  obtain ⟨⟨qa, rfl, ha⟩, ga, sa, la⟩ := lgOf_some hx hA
  obtain ⟨⟨qb, rfl, hb⟩, gb, sb, lb⟩ := lgOf_some hy hB
  obtain ⟨⟨qc, rfl, hc⟩, gc, sc, lc⟩ := lgOf_some hz hC
  have ta : ∀ e ∈ a, TxP e := fun e he => (ga e he).txP
  have tb : ∀ e ∈ b, TxP e := fun e he => (gb e he).txP
  have tc : ∀ e ∈ c, TxP e := fun e he => (gc e he).txP
  have ej : jx m (.ref qa) (.ref qb) (.ref qc) = jB a b c := by unfold jx; rw [hA, hB, hC]
  rw [ej] at post
  have a1 : ∀ y : En, cut [D.int y.1, .int y.2.1, .int y.2.2.1, .str y.2.2.2] (some 1) (some 3) = [.int y.2.1, .int y.2.2.1] := fun _ => rfl
  let E : Mn.Env := [some (.ref qa), some (.ref qb), some (.ref qc), none]
  refine seq_to (fun r1 m2 => r1 = E ∧ Ext m m2 ∧ (c.map kI).Nodup) (fun nx hn => ?_) ?_
  · simp [-Bool.exists_bool]
    rw [walk_ref (e1 _ _ hc)]
    intro p hp
    refine comp_list c entD (fun e => D.tup [.int e.2.1, .int e.2.2.1]) hp (fun m2 k2 => k2 _ _ (ne_new hp (e1 _ _ hc)) (e1 _ _ hc)) (by omega) (fun x hx m2 acc Q1 Q2 k2 h2 q => ?_) fun m3 e3 h3 => ?_
    · simp [-Bool.exists_bool, wipe, entD, a1]
      exact q m2 k2 h2
    · refine ⟨_, _, h3, tupIs_k c, by rw [List.length_map]; omega, ?_⟩
      simp [-Bool.exists_bool, len_ref (e3 _ _ (e1 _ _ hc))]
      have hu := (unlL_len (c.map kI)).2
      rw [List.length_map] at hu
      by_cases h : (c.map kI).Nodup
      · have h2 := hu.mpr h
        simp [-Bool.exists_bool, h2]
        exact hn _ _ ⟨rfl, e1.trans e3, h⟩
      · have h2 : ¬ (((unlL (c.map kI)).length : Nat) : Int) = ((c.length : Nat) : Int) := fun z => h (hu.mp (by omega))
        simp [-Bool.exists_bool, h2]
        have := post m3 (e1.trans e3)
        simpa [jB, h] using this
  rintro _ m2 ⟨rfl, e2, nd⟩
  unfold jB at post
  rw [decide_eq_true nd, Bool.true_and] at post
  refine seq_to (fun r1 m3 => r1 = E ∧ Ext m m3 ∧ ((a.all fun e => decide (e ∈ c)) && (b.all fun e => decide (e ∈ c))) = true) (fun nx hn => ?_) ?_
  · simp [-Bool.exists_bool, E]
    rw [walk_ref (e2 _ _ ha)]
    intro p hp
    refine comp_list a entD (fun e => .bl (decide (e ∈ c))) hp (fun m3 k3 => k3 _ _ (ne_new hp (e2 _ _ ha)) (e2 _ _ ha)) (by omega) (fun x hx m3 acc Q1 Q2 k3 h3 q => ?_) fun m3 e3 h3 => ?_
    · simp [-Bool.exists_bool, wipe]
      exact in_ents (k3 _ _ (ne_new hp (e2 _ _ hc)) (e2 _ _ hc)) (ta x hx) tc (q m3 k3 h3)
    · rw [allB h3]
      cases hq : a.all fun e => decide (e ∈ c) with
      | false =>
        simp [-Bool.exists_bool]
        have := post m3 (e2.trans e3)
        rw [hq] at this
        simpa using this
      | true =>
        rw [hq] at post
        simp [-Bool.exists_bool]
        have e23 := e2.trans e3
        rw [walk_ref (e23 _ _ hb)]
        intro p2 hp2
        refine comp_list b entD (fun e => .bl (decide (e ∈ c))) hp2 (fun m4 k4 => k4 _ _ (ne_new hp2 (e23 _ _ hb)) (e23 _ _ hb)) (by omega) (fun x hx m4 acc Q1 Q2 k4 h4 q => ?_) fun m4 e4 h4 => ?_
        · simp [-Bool.exists_bool, wipe]
          exact in_ents (k4 _ _ (ne_new hp2 (e23 _ _ hc)) (e23 _ _ hc)) (tb x hx) tc (q m4 k4 h4)
        · rw [allB h4]
          cases hq2 : b.all fun e => decide (e ∈ c) with
          | false =>
            simp [-Bool.exists_bool]
            have := post m4 (e23.trans e4)
            rw [hq2] at this
            simpa using this
          | true =>
            simp [-Bool.exists_bool]
            exact hn _ _ ⟨rfl, e23.trans e4, by rw [hq, hq2]; rfl⟩
  rintro _ m3 ⟨rfl, e3, hab⟩
  rw [hab, Bool.true_and] at post
  simp [-Bool.exists_bool, E]
  rw [walk_ref (e3 _ _ hc)]
  intro p hp
  refine comp_list c entD (fun e => .bl (decide (e ∈ a) || decide (e ∈ b))) hp (fun m4 k4 => k4 _ _ (ne_new hp (e3 _ _ hc)) (e3 _ _ hc)) (by omega) (fun x hx m4 acc Q1 Q2 k4 h4 q => ?_) fun m4 e4 h4 => ?_
  · simp [-Bool.exists_bool, wipe]
    refine in_ents (k4 _ _ (ne_new hp (e3 _ _ ha)) (e3 _ _ ha)) (tc x hx) ta ?_
    have := q m4 k4 h4
    by_cases h : x ∈ a
    · simp [-Bool.exists_bool, h]
      simpa [h] using this
    · simp [-Bool.exists_bool, h]
      refine in_ents (k4 _ _ (ne_new hp (e3 _ _ hb)) (e3 _ _ hb)) (tc x hx) tb ?_
      simpa [h] using this
  · rw [allB h4]
    exact post m4 (e3.trans e4)
end Mn.K55
end

section
set_option Elab.async false
set_option linter.all false
set_option maxRecDepth 100000
set_option maxHeartbeats 4000000
set_option pp.maxSteps 600
namespace Mn.K55
open Mn
variable {n : Nat} {m m2 : Hm} {P : PD} {X : Nat → Hm → Prop}
theorem cut_to {α : Type} {l : List α} {i : Nat} (h : i ≤ l.length) : cut l none (some (i : Int)) = l.take i := by
  unfold cut sIx
  simp only [if_neg (show ¬ (i : Int) < 0 by omega), Int.toNat_natCast, List.drop_zero, Nat.sub_zero]
  rw [Nat.min_eq_left h]
theorem cut_from {α : Type} {l : List α} {i : Nat} (h : i ≤ l.length) : cut l (some (i : Int)) none = l.drop i := by
  unfold cut sIx
  simp only [if_neg (show ¬ (i : Int) < 0 by omega), Int.toNat_natCast]
  rw [Nat.min_eq_left h, List.take_of_length_le (by rw [List.length_drop]; omega)]
theorem map_to {α : Type} {l : List α} {f : α → D} {i : Nat} (h : i ≤ l.length) : cut (l.map f) none (some (i : Int)) = (l.take i).map f := by
  rw [cut_to (by rw [List.length_map]; exact h), List.map_take]
theorem map_from {α : Type} {l : List α} {f : α → D} {i : Nat} (h : i ≤ l.length) : cut (l.map f) (some (i : Int)) none = (l.drop i).map f := by
  rw [cut_from (by rw [List.length_map]; exact h), List.map_drop]
theorem entD_inj {a b : En} (h : entD a = entD b) : a = b := by
  have := eqv_entD (a := a) (c := b)
  rw [h, eqvr b] at this
  simpa using this.symm
where eqvr (b : En) : D.eqv (entD b) (entD b) = true := by rw [eqv_entD]; simp
theorem eqvs_ents : ∀ {xs ys : List En}, D.eqvs (xs.map entD) (ys.map entD) = decide (xs = ys)
  | [], [] => rfl
  | [], _ :: _ => rfl
  | _ :: _, [] => rfl
  | x :: xs, y :: ys => by
    show (D.eqv (entD x) (entD y) && D.eqvs (xs.map entD) (ys.map entD)) = _
    rw [eqv_entD, eqvs_ents, Bool.eq_iff_iff]
    simp
theorem ents_of {L : List En} : ∀ {ms : List D}, (∀ d ∈ ms, ∃ e ∈ L, d = entD e) → ∃ es : List En, ms = es.map entD ∧ ∀ e ∈ es, e ∈ L
  | [], _ => ⟨[], rfl, fun _ h => nomatch h⟩
  | d :: ms, h => by
    obtain ⟨e, he, rfl⟩ := h d List.mem_cons_self
    obtain ⟨es, rfl, hes⟩ := ents_of (ms := ms) fun x hx => h x (List.mem_cons_of_mem _ hx)
    refine ⟨e :: es, rfl, fun x hx => ?_⟩
    rcases List.mem_cons.mp hx with z | z
    · rw [z]; exact he
    · exact hes x z
theorem nest_ents (es : List En) : nestL (es.map entD) = true := by
  unfold nestL
  rw [List.all_eq_true]
  intro d hd
  obtain ⟨e, _, rfl⟩ := List.mem_map.mp hd
  rfl
theorem due_eq {a b c es : List En} (hc : Srt c) (nd : es.Nodup) (he : ∀ e, e ∈ es ↔ e ∈ a ++ b) : decide (es.mergeSort leE = c) = ((a.all fun e => decide (e ∈ c)) && (b.all fun e => decide (e ∈ c)) && c.all fun e => (decide (e ∈ a) || decide (e ∈ b))) := by
  have pm := List.mergeSort_perm es leE
  have mm : ∀ e, e ∈ es.mergeSort leE ↔ (e ∈ a ∨ e ∈ b) := fun e => by rw [pm.mem_iff, he, List.mem_append]
  rw [Bool.eq_iff_iff]
  simp only [decide_eq_true_eq, Bool.and_eq_true, List.all_eq_true, Bool.or_eq_true]
  constructor
  · intro h
    subst h
    exact ⟨⟨fun e h => (mm e).mpr (.inl h), fun e h => (mm e).mpr (.inr h)⟩, fun e h => (mm e).mp h⟩
  · rintro ⟨⟨h1, h2⟩, h3⟩
    exact srt_eq ⟨sort_E _, pm.nodup_iff.mpr nd⟩ hc fun e => (mm e).trans ⟨fun h => h.elim (h1 e) (h2 e), h3 e⟩
theorem s_law_due {x y z : D} (hx : Th m x) (hy : Th m y) (hz : Th m z) (post : ∀ m2, Ext m m2 → P (.bl (jx m x y z)) m2) : callN T (n + 2) 0 361 [x, y, z] m P X := by
  rw [call_iff F_law_due]
  refine ⟨rfl, ?_⟩
  have hSZ : (100000 : Nat) < SZ := by decide
  unfold f_law_due start
  simp only [List.map, List.length, List.replicate, List.cons_append, List.nil_append]
  refine seq_to (fun r1 m1 => r1 = [some x, some y, some z, none, none] ∧ Ext m m1 ∧ ∃ a b c, lgOf m x = some a ∧ lgOf m y = some b ∧ lgOf m z = some c) (fun nx hn => ?_) ?_
  · simp [-Bool.exists_bool, F_law_is_log]
    refine s_law_is_log hx fun m1 e1 => ?_
    cases hA : lgOf m x with
    | none =>
      have := post m1 e1
      unfold jx at this
      rw [hA] at this
      simp [-Bool.exists_bool]
      exact this
    | some a =>
      simp [-Bool.exists_bool, F_law_is_log]
      refine s_law_is_log (hy.ext e1) fun m2 e2 => ?_
      rw [lg_ext hy e1]
      cases hB : lgOf m y with
      | none =>
        have := post m2 (e1.trans e2)
        unfold jx at this
        rw [hA, hB] at this
        simp [-Bool.exists_bool]
        exact this
      | some b =>
        simp [-Bool.exists_bool, F_law_is_log]
        refine s_law_is_log (hz.ext (e1.trans e2)) fun m3 e3 => ?_
        rw [lg_ext hz (e1.trans e2)]
        cases hC : lgOf m z with
        | none =>
          have := post m3 ((e1.trans e2).trans e3)
          unfold jx at this
          rw [hA, hB, hC] at this
          simp [-Bool.exists_bool]
          exact this
        | some c =>
          simp [-Bool.exists_bool]
          exact hn _ _ ⟨rfl, (e1.trans e2).trans e3, a, b, c, hA, hB, hC⟩
  rintro _ m1 ⟨rfl, e1, a, b, c, hA, hB, hC⟩
  obtain ⟨⟨qa, rfl, ha⟩, ga, sa, la⟩ := lgOf_some hx hA
  obtain ⟨⟨qb, rfl, hb⟩, gb, sb, lb⟩ := lgOf_some hy hB
  obtain ⟨⟨qc, rfl, hc⟩, gc, sc, lc⟩ := lgOf_some hz hC
  have ta : ∀ e ∈ a, TxP e := fun e he => (ga e he).txP
  have tb : ∀ e ∈ b, TxP e := fun e he => (gb e he).txP
  have tc : ∀ e ∈ c, TxP e := fun e he => (gc e he).txP
  have ej : jx m (.ref qa) (.ref qb) (.ref qc) = jB a b c := by unfold jx; rw [hA, hB, hC]
  rw [ej] at post
  have a1 : ∀ y : En, cut [D.int y.1, .int y.2.1, .int y.2.2.1, .str y.2.2.2] (some 1) (some 3) = [.int y.2.1, .int y.2.2.1] := fun _ => rfl
  refine seq_to (fun r1 m2 => ∃ w, r1 = [some (.ref qa), some (.ref qb), some (.ref qc), w, none] ∧ Ext m m2 ∧ (c.map kI).Nodup) (fun nx hn => ?_) ?_
  · refine fr_shut fun B hB => ?_
    have hb : inB (c.length : Int) := ⟨by omega, by omega⟩
    simp [-Bool.exists_bool, len_ref (e1 _ _ hc), hb]
    refine loop_inv (fun k r m2 => ∃ w, r = [some (.ref qa), some (.ref qb), some (.ref qc), w, none] ∧ Ext m m2 ∧ ((c.take k).map kI).Nodup) (k := 0) ⟨none, rfl, e1, by simp⟩ (fun i d r m2 Q hd ⟨w, er, e2, nd⟩ hQ => ⟨trivial, ?_⟩) fun r m2 h => ?_
    · subst er
      obtain ⟨rfl, hi⟩ := range_get hd
      rw [hB]
      have hc2 := e2 _ _ hc
      have ge : atI (c.map entD) (i : Int) = some (entD c[i]) := by
        rw [atI_nat (by rw [List.length_map]; exact hi)]
        simp
      have ec : cut (c.map entD) none (some (i : Int)) = (c.take i).map entD := map_to (by omega)
      simp only [Nat.zero_add] at nd
      refine seq_to (fun r1 m3 => r1 = [some (.ref qa), some (.ref qb), some (.ref qc), some (.int (i : Nat)), none] ∧ Ext m m3 ∧ kI c[i] ∉ (c.take i).map kI) (fun nx hn2 => ?_) ?_
      · simp [-Bool.exists_bool, x_ref hc2, ge, sl_ref hc2, ec]
        simp only [entD, a1]
        simp [-Bool.exists_bool, a1]
        rw [sl_ref hc2, ec]
        intro p hp
        rw [walk_ref (up_at (m := m2) (p := p) (o := .lst ((c.take i).map entD)))]
        intro p2 hp2
        have hpp : p ≠ p2 := ne_new hp2 up_at
        refine comp_list (c.take i) entD (fun e => D.tup [.int e.2.1, .int e.2.2.1]) hp2 (fun m3 k3 => k3 _ _ hpp up_at) (by rw [List.length_take]; omega) (fun x hx m3 acc Q1 Q2 k3 h3 q => ?_) fun m3 e3 h3 => ?_
        · simp [-Bool.exists_bool, wipe, entD, a1]
          exact q m3 k3 h3
        · rw [in_eq]
          refine in_flat h3 rfl ?_ ?_
          · have : ∀ l : List En, D.flats 60 (l.map fun e => D.tup [.int e.2.1, .int e.2.2.1]) = true := fun l => by
              induction l with
              | nil => rfl
              | cons x l ih => simp only [List.map_cons, D.flats, ih]; rfl
            exact this _
          · have ea : (((c.take i).map fun e => D.tup [.int e.2.1, .int e.2.2.1]).any fun z => D.eqv z (.tup [.int c[i].2.1, .int c[i].2.2.1])) = decide (kI c[i] ∈ (c.take i).map kI) := by
              rw [Bool.eq_iff_iff]
              simp only [List.any_eq_true, List.mem_map, decide_eq_true_eq, kI]
              constructor
              · rintro ⟨_, ⟨e, he, rfl⟩, h⟩
                refine ⟨e, he, ?_⟩
                simpa [D.eqv, D.eqvs] using h
              · rintro ⟨e, he, h⟩
                exact ⟨_, ⟨e, he, rfl⟩, by simpa [D.eqv, D.eqvs] using h⟩
            rw [ea]
            have e4 : Ext m m3 := (e2.trans (Ext.new hp)).trans e3
            by_cases hk : kI c[i] ∈ (c.take i).map kI
            · have hk2 : kI c[i] ∈ List.take i (c.map kI) := by rw [← List.map_take]; exact hk
              simp [-Bool.exists_bool, hk2]
              have := post m3 e4
              have nn : ¬ (c.map kI).Nodup := fun z => by
                have h5 : (((c.take (i + 1)).map kI)).Nodup := (z.sublist ((List.take_sublist _ _).map _))
                rw [List.take_succ_eq_append_getElem hi, List.map_append, List.nodup_append] at h5
                exact h5.2.2 _ hk (kI c[i]) (by simp) rfl
              unfold jB at this
              rw [decide_eq_false nn] at this
              simpa using this
            · have hk2 : ¬ kI c[i] ∈ List.take i (c.map kI) := by rw [← List.map_take]; exact hk
              simp [-Bool.exists_bool, hk2]
              exact hn2 _ _ ⟨rfl, e4, hk⟩
      rintro _ m3 ⟨rfl, e3, hk⟩
      simp [-Bool.exists_bool]
      refine hQ _ _ ⟨_, rfl, e3, ?_⟩
      rw [Nat.zero_add, List.take_succ_eq_append_getElem hi, List.map_append, List.nodup_append]
      exact ⟨nd, by simp, fun x hx y hy e => by
        simp only [List.map_cons, List.map_nil, List.mem_singleton] at hy
        subst hy
        exact hk (e ▸ hx)⟩
    · obtain ⟨w, er, e2, nd⟩ := h
      refine ⟨trivial, hn _ _ ⟨w, er, e2, ?_⟩⟩
      have : (rangeD 0 c.length).length = c.length := by rw [rangeD_map]; simp
      simpa [this] using nd
  rintro _ m2 ⟨w, rfl, e2, nd⟩
  unfold jB at post
  rw [decide_eq_true nd, Bool.true_and] at post
  simp [-Bool.exists_bool, add_ref (e2 _ _ ha) (e2 _ _ hb)]
  refine ⟨by omega, fun p hp => ?_⟩
  have tab : ∀ e ∈ a ++ b, TxP e := fun e he => by
    rcases List.mem_append.mp he with h | h
    · exact ta e h
    · exact tb e h
  refine ⟨(a ++ b).map entD, by rw [List.map_append]; exact up_at, nest_ents _, by rw [List.length_map, List.length_append]; omega, sortable_entD tab (by rw [List.length_append]; omega), fun ms nd2 hm p2 hp2 => ?_⟩
  obtain ⟨es, rfl, hes⟩ := ents_of (L := a ++ b) (ms := ms) fun d hd => by
    obtain ⟨e, he, h⟩ := List.mem_map.mp ((hm d).mp hd)
    exact ⟨e, he, h.symm⟩
  have nd3 : es.Nodup := List.Pairwise.of_map entD (fun _ _ hne e => hne (congrArg entD e)) nd2
  have hmem : ∀ e, e ∈ es ↔ e ∈ a ++ b := fun e => ⟨hes e, fun he => by
    obtain ⟨u, hu, h⟩ := List.mem_map.mp ((hm (entD e)).mpr (List.mem_map.mpr ⟨e, he, rfl⟩))
    rw [← entD_inj h]; exact hu⟩
  rw [sort_entD]
  have e3 : Ext m2 (up (up m2 p (.lst ((a ++ b).map entD))) p2 (.lst ((es.mergeSort leE).map entD))) := (Ext.new hp).trans (Ext.new (by simpa [List.map_append] using hp2))
  simp [-Bool.exists_bool, eq_eq_]
  have hfin := post _ (e2.trans e3)
  rw [← due_eq sc nd3 hmem] at hfin
  rw [List.map_append] at e3 hfin
  refine eq_lists up_at (e3 _ _ (e2 _ _ hc)) (flats_entD (k := 57) fun e he => tab e (hes e ((List.mergeSort_perm es leE).mem_iff.mp he))) (flats_entD (k := 57) tc) ?_
  rw [eqvs_ents]
  simpa using hfin
end Mn.K55
end

section
set_option Elab.async false
set_option linter.all false
set_option maxRecDepth 100000
set_option maxHeartbeats 4000000
set_option pp.maxSteps 600
namespace Mn.K55
open Mn
variable {n : Nat} {m m2 : Hm} {P : PD} {X : Nat → Hm → Prop}
/-- an entry that the law draws -/
def EnW (e : En) : Prop := okn e.2.2.2 = true ∧ 1 ≤ e.2.2.2.length ∧ e.2.2.2.length ≤ 20
theorem EnW.it {e : En} (h : EnW e) : It m (entD e) := .en (by have := h.2.2; omega) h.1
theorem EnW.tx {e : En} (h : EnW e) : TxP e := okn_pln h.1
theorem its_of {es : List En} (h : ∀ e ∈ es, EnW e) : ∀ d ∈ es.map entD, It m d := fun d hd => by
  obtain ⟨e, he, rfl⟩ := List.mem_map.mp hd
  exact (h e he).it
theorem okn_app {s t : List Nat} : okn (s ++ t) = (okn s && okn t) := by unfold okn; rw [List.all_append]
/-- a thing and what is another of the same -/
def Tw (m : Hm) (x y : D) : Prop := Th m x ∧ (x = y ∨ ∃ q q2 ds, x = .ref q ∧ y = .ref q2 ∧ m q = some (.lst ds) ∧ m q2 = some (.lst ds))
theorem Tw.ext {x y : D} (h : Tw m x y) (e : Ext m m2) : Tw m2 x y := ⟨h.1.ext e, h.2.elim .inl fun ⟨q, q2, ds, a, b, c, d⟩ => .inr ⟨q, q2, ds, a, b, e _ _ c, e _ _ d⟩⟩
theorem Tw.th {x y : D} (h : Tw m x y) : Th m y ∧ lgOf m y = lgOf m x := by
  obtain ⟨hx, rfl | ⟨q, q2, ds, rfl, rfl, h1, h2⟩⟩ := h
  · exact ⟨hx, rfl⟩
  · cases hx with
    | ref a1 a2 a3 =>
      rw [h1] at a1
      cases a1
      exact ⟨.ref h2 a2 a3, by rw [lgOf_ref h1, lgOf_ref h2]⟩
mutual
theorem eqv_self : ∀ {n : Nat} {d : D}, D.shp n d = true → D.eqv d d = true
  | _, .non, _ => by simp [D.eqv]
  | _, .bl b, _ => by simp [D.eqv]
  | _, .int i, _ => by simp [D.eqv]
  | _, .str s, _ => by simp [D.eqv]
  | n, .tup ds, h => by
    cases n with
    | zero => simp [D.shp] at h
    | succ k => simpa [D.eqv] using eqvs_self (n := k) (ds := ds) (by simpa [D.shp] using h)
  | n, .lst ds, h => by
    cases n with
    | zero => simp [D.shp] at h
    | succ k => simpa [D.eqv] using eqvs_self (n := k) (ds := ds) (by simpa [D.shp] using h)
  | _, .ref _, h => by simp [D.shp] at h
  | _, .exc _ _, h => by simp [D.shp] at h
theorem eqvs_self : ∀ {n : Nat} {ds : List D}, D.shps n ds = true → D.eqvs ds ds = true
  | _, [], _ => by simp [D.eqvs]
  | n, d :: ds, h => by
    have h : D.shp n d = true ∧ D.shps n ds = true := by simpa [D.shps] using h
    simp [D.eqvs, eqv_self h.1, eqvs_self h.2]
end
theorem shp_mono (k : Nat) : ∀ n, (∀ d, D.shp n d = true → D.shp (n + k) d = true) ∧ (∀ ds, D.shps n ds = true → D.shps (n + k) ds = true) := by
  intro n
  induction n with
  | zero =>
    have a : ∀ d, D.shp 0 d = true → D.shp (0 + k) d = true := fun d h => by cases d <;> simp_all [D.shp]
    refine ⟨a, fun ds => ?_⟩
    induction ds with
    | nil => exact fun _ => rfl
    | cons d ds ih => intro h; simp only [D.shps, Bool.and_eq_true] at h ⊢; exact ⟨a d h.1, ih h.2⟩
  | succ n ih =>
    have a : ∀ d, D.shp (n + 1) d = true → D.shp (n + 1 + k) d = true := fun d h => by
      rw [show n + 1 + k = n + k + 1 by omega]
      cases d with
      | tup ds => exact ih.2 ds h
      | lst ds => exact ih.2 ds h
      | _ => simp_all [D.shp]
    refine ⟨a, fun ds => ?_⟩
    induction ds with
    | nil => exact fun _ => rfl
    | cons d ds ih => intro h; simp only [D.shps, Bool.and_eq_true] at h ⊢; exact ⟨a d h.1, ih h.2⟩
theorem It.res {d : D} (h : It m d) : ∃ r, Res m d r ∧ D.shp 53 r = true := by
  cases h with
  | @en s p u t h1 h2 =>
    have : D.flat 53 (.tup [.int s, .int p, .int u, .str t]) = true := flat_entD (k := 51) (e := (s, p, u, t)) (okn_pln h2)
    exact ⟨_, (flat_res (m := m) this).1, (flat_res (m := m) this).2⟩
  | tup0 => exact ⟨_, .tup .nil, rfl⟩
  | tup3 => exact ⟨_, (flat_res (m := m) (n := 53) (d := .tup [.int 0, .int 0, .int 0]) rfl).1, rfl⟩
  | non => exact ⟨_, .non, rfl⟩
  | str => exact ⟨_, .str _, rfl⟩
  | @ref a ds h1 h2 _ =>
    refine ⟨.lst ds, .ref h1 (flats_res (m := m) h2).1, ?_⟩
    exact (shp_mono 2 50).2 ds (flats_res (m := m) h2).2
theorem its_res : ∀ {ds : List D}, (∀ d ∈ ds, It m d) → ∃ rs, Ress m ds rs ∧ D.shps 53 rs = true
  | [], _ => ⟨[], .nil, rfl⟩
  | d :: ds, h => by
    obtain ⟨r, h1, h2⟩ := (h d List.mem_cons_self).res
    obtain ⟨rs, h3, h4⟩ := its_res fun x hx => h x (List.mem_cons_of_mem _ hx)
    exact ⟨r :: rs, .cons h1 h3, by simp only [D.shps, h2, h4]; rfl⟩
theorem Tw.res {x y : D} (h : Tw m x y) : ∃ r, Res m x r ∧ Res m y r ∧ D.shp 54 r = true := by
  obtain ⟨hx, rfl | ⟨q, q2, ds, rfl, rfl, h1, h2⟩⟩ := h
  · cases hx with
    | non => exact ⟨_, .non, .non, rfl⟩
    | tup _ hi =>
      obtain ⟨rs, h3, h4⟩ := its_res hi
      exact ⟨_, .tup h3, .tup h3, h4⟩
    | ref h0 _ hi =>
      obtain ⟨rs, h3, h4⟩ := its_res hi
      exact ⟨_, .ref h0 h3, .ref h0 h3, h4⟩
  · cases hx with
    | ref h0 _ hi =>
      rw [h1] at h0
      cases h0
      obtain ⟨rs, h3, h4⟩ := its_res hi
      exact ⟨_, .ref h1 h3, .ref h2 h3, h4⟩
theorem s_law_copy {x : D} (hx : Th m x) (post : ∀ y m2, Ext m m2 → Tw m2 x y → P y m2) : callN T (n + 1) 0 362 [x] m P X := by
  rw [call_iff F_law_copy]
  refine ⟨rfl, ?_⟩
  cases hx with
  | non => simp [-Bool.exists_bool, f_law_copy, start]; exact post _ m .refl ⟨.non, .inl rfl⟩
  | tup h1 h2 => simp [-Bool.exists_bool, f_law_copy, start]; exact post _ m .refl ⟨.tup h1 h2, .inl rfl⟩
  | @ref q ds h0 h1 h2 =>
    simp [-Bool.exists_bool, f_law_copy, start, h0]
    rw [list_ref h0]
    intro p hp
    have e := Ext.new (o := .lst ds) hp
    exact post _ _ e ⟨.ref (e _ _ h0) h1 fun d hd => (h2 d hd).ext e, .inr ⟨q, p, ds, rfl, rfl, e _ _ h0, up_at⟩⟩
/-- what a comparison of three things with their copies tells -/
theorem ne_three {a b : Nat} {x y z x2 y2 z2 : D} (ha : m a = some (.lst [x2, y2, z2])) (hb : m b = some (.lst [x, y, z])) (hx : Tw m x x2) (hy : Tw m y y2) (hz : Tw m z z2) (post : P (.bl false) m) : cmpW .ne (.ref a) (.ref b) m P := by
  obtain ⟨r1, a1, a2, a3⟩ := hx.res
  obtain ⟨r2, b1, b2, b3⟩ := hy.res
  obtain ⟨r3, c1, c2, c3⟩ := hz.res
  have sh : D.shps 54 [r1, r2, r3] = true := by simp only [D.shps, a3, b3, c3]; rfl
  have sh2 : D.shp 60 (.lst [r1, r2, r3]) = true := by
    simp only [D.shp, D.shps, Bool.and_eq_true, and_true]
    exact ⟨(shp_mono 5 54).1 r1 a3, (shp_mono 5 54).1 r2 b3, (shp_mono 5 54).1 r3 c3⟩
  rw [ne_eq_]
  refine eq_res rfl (.ref ha (.cons a2 (.cons b2 (.cons c2 .nil)))) (.ref hb (.cons a1 (.cons b1 (.cons c1 .nil)))) sh2 sh2 ?_
  rw [eqv_self sh2]
  exact post
end Mn.K55
end

section
set_option Elab.async false
set_option linter.all false
set_option maxRecDepth 100000
set_option maxHeartbeats 4000000
set_option pp.maxSteps 600
namespace Mn.K55
open Mn
variable {n : Nat} {m m2 : Hm} {P : PD} {X : Nat → Hm → Prop}
def sgn : List Nat := [32, 33, 97, 126, 122, 81, 48, 57, 45, 47]
theorem sgn_at {z : Int} (h0 : 0 ≤ z) (h1 : z < 10) : ∃ c, atI sgn z = some c ∧ okn [c] = true := by
  have h : z = 0 ∨ z = 1 ∨ z = 2 ∨ z = 3 ∨ z = 4 ∨ z = 5 ∨ z = 6 ∨ z = 7 ∨ z = 8 ∨ z = 9 := by omega
  rcases h with rfl | rfl | rfl | rfl | rfl | rfl | rfl | rfl | rfl | rfl <;> exact ⟨_, rfl, by decide⟩
theorem join_signs : ∀ {ys : List D}, (∀ d ∈ ys, ∃ c, d = .str [c] ∧ okn [c] = true) → ∃ t : List Nat, ys = (t.map fun c => [c]).map D.str ∧ okn t = true ∧ t.length = ys.length
  | [], _ => ⟨[], rfl, rfl, rfl⟩
  | d :: ys, h => by
    obtain ⟨c, rfl, hc⟩ := h d List.mem_cons_self
    obtain ⟨t, rfl, ht, hl⟩ := join_signs fun x hx => h x (List.mem_cons_of_mem _ hx)
    exact ⟨c :: t, rfl, by rw [show c :: t = [c] ++ t from rfl, okn_app, hc, ht]; rfl, congrArg Nat.succ hl⟩
theorem s_law_entry {b k : Nat} {u : Int} (hb : Bag m b (k + 30)) (hu : 0 ≤ u) (post : ∀ s p t m2, Keep b m m2 → Bag m2 b k → EnW (s, p, u, t) → 0 ≤ s → s < 1000 → 0 ≤ p → p < 4 → P (entD (s, p, u, t)) m2) : callN T (n + 2) 0 359 [.ref b, .int u] m P X := by
  rw [call_iff F_law_entry]
  refine ⟨rfl, ?_⟩
  have hSZ : (100000 : Nat) < SZ := by decide
  unfold f_law_entry start
  simp only [List.map, List.length, List.replicate, List.cons_append, List.nil_append]
  refine seq_to (fun r1 m1 => ∃ t, r1 = [some (.ref b), some (.int u), some (.str t), none] ∧ Keep b m m1 ∧ Bag m1 b (k + 4) ∧ okn t = true ∧ 1 ≤ t.length ∧ t.length ≤ 20) (fun nx hn => ?_) ?_
  · have hm2 : u.fmod 2 = 0 ∨ u.fmod 2 = 1 := by
      have h1 := Int.fmod_nonneg_of_pos u (show (0 : Int) < 2 by decide)
      have h2 := Int.fmod_lt_of_pos u (show (0 : Int) < 2 by decide)
      omega
    have hw : ∃ w : Int, atI [D.int 3, .int 20] (u.fmod 2) = some (.int w) ∧ 1 ≤ w ∧ w ≤ 20 := by
      rcases hm2 with h | h
      · rw [h]; exact ⟨3, rfl, by decide, by decide⟩
      · rw [h]; exact ⟨20, rfl, by decide, by decide⟩
    obtain ⟨w, w0, w1, w2⟩ := hw
    simp [-Bool.exists_bool, F_law_take]
    refine ⟨rfl, ?_⟩
    intro p0 hp0
    rw [x_ref up_at]
    refine ⟨_, w0, ?_⟩
    have e0 := Ext.new (o := .lst [.int 3, .int 20]) hp0
    refine take_ok F_law_take ((hb.mono (show k + 24 + 1 ≤ k + 30 by omega)).ext e0) (by omega) (by omega) fun z m1 z0 z1 k1 b1 => ?_
    have hz : inB (1 + z) := ⟨by omega, by omega⟩
    simp [-Bool.exists_bool, hz]
    intro p hp
    have hlen : (rangeD 0 (1 + z).toNat).length = (1 + z).toNat := by rw [rangeD_map]; simp
    refine comp_bag (k := k + 4) (fun d => ∃ c, d = .str [c] ∧ okn [c] = true) 1 hp (fun _ _ => trivial) (b1.mono (by rw [hlen]; omega)) (by rw [hlen]; omega) (fun x hx m2 j Q1 Q2 k2 b2 q => ?_) fun m3 ys hy hG k3 b3 h3 => ?_
    · simp [-Bool.exists_bool, wipe, F_law_take]
      refine take_ok F_law_take b2 (by decide) (by decide) fun y m4 y0 y1 k4 b4 => ?_
      obtain ⟨c, c1, c2⟩ := sgn_at y0 y1
      have hs : (10 : Nat) ≤ SZ := by omega
      unfold sgn at c1
      simp [-Bool.exists_bool, ixW, c1, hs]
      exact q _ m4 ⟨c, rfl, c2⟩ k4 b4
    · obtain ⟨t, rfl, ht, hl⟩ := join_signs hG
      rw [hy, hlen] at hl
      have hlt : t.length = (1 + z).toNat := hl
      refine ⟨rfl, ?_⟩
      rw [join_strs h3]
      have hsum : ∀ t : List Nat, ((t.map fun c => [c]).map List.length).sum = t.length := fun t => by
        induction t with
        | nil => rfl
        | cons c t ih => simp only [List.map_cons, List.sum_cons, ih, List.length_cons, List.length_nil]; omega
      refine ⟨by rw [hsum]; simp; omega, ?_⟩
      rw [joinT_nil, one_signs]
      exact hn _ _ ⟨t, rfl, (e0.keep.trans k1).trans k3, b3, ht, by omega, by omega⟩
  rintro _ m1 ⟨t, rfl, k1, b1, t1, t2, t3⟩
  simp [-Bool.exists_bool, F_law_take]
  intro p hp
  have e1 := Ext.new (o := .lst [.int 4, .int 1000]) hp
  refine take_ok F_law_take (b1.ext e1) (by decide) (by decide) fun z m2 z0 z1 k2 b2 => ?_
  have hpb : p ≠ b := by
    obtain ⟨o, ho⟩ := b1.at
    exact (ne_new hp ho).symm
  have go : ∀ w : Int, 0 < w → w ≤ 1000 → callN T (n + 1) 0 3 [.ref b, .int w] m2 (fun d m1 => callN T (n + 1) 0 3 [D.ref b, D.int 4] m1 (fun d_1 m1 => P (D.tup [d, d_1, D.int u, D.str t]) m1) fun c m2 => X c m2) (fun c m2 => X c m2) := fun w w0 w1 => by
    refine take_ok F_law_take (b2.mono (show k + 1 + 1 ≤ k + 3 by omega)) w0 (by omega) fun s m3 s0 s1 k3 b3 => ?_
    refine take_ok F_law_take b3 (by decide) (by decide) fun p m4 p0 p1 k4 b4 => ?_
    exact post s p t m4 ((((k1.trans e1.keep).trans k2).trans k3).trans k4) b4 ⟨t1, t2, t3⟩ s0 (by omega) p0 p1
  by_cases h : z = 0
  · subst h
    simp [-Bool.exists_bool]
    rw [x_ref (k2 _ _ hpb up_at)]
    exact ⟨_, rfl, go 1000 (by decide) (by decide)⟩
  · simp [-Bool.exists_bool, h]
    rw [x_ref (k2 _ _ hpb up_at)]
    exact ⟨_, rfl, go 4 (by decide) (by decide)⟩
end Mn.K55
end

section
set_option Elab.async false
set_option linter.all false
set_option maxRecDepth 100000
set_option maxHeartbeats 4000000
set_option pp.maxSteps 600
namespace Mn.K55
open Mn
variable {n : Nat} {m m2 : Hm} {P : PD} {X : Nat → Hm → Prop}
theorem th_one {a : Nat} {d : D} (h : m a = some (.lst [d])) (hd : It m d) : Th m (.ref a) := .ref h (by simp) fun x hx => by rw [List.mem_singleton.mp hx]; exact hd
theorem rep_ok {t : List Nat} (h : okn t = true) : ∀ k : Nat, okn (List.replicate k t).flatten = true
  | 0 => rfl
  | k + 1 => by rw [List.replicate_succ, List.flatten_cons, okn_app, h, rep_ok h k]; rfl
theorem rep_len {t : List Nat} (h : t.length ≤ 1) : ∀ k : Nat, (List.replicate k t).flatten.length ≤ k
  | 0 => by simp
  | k + 1 => by rw [List.replicate_succ, List.flatten_cons, List.length_append]; have := rep_len h k; omega
theorem s_law_odd {b k q : Nat} {es : List En} (hb : Bag m b (k + 2)) (hq : m q = some (.lst (es.map entD))) (hg : ∀ e ∈ es, EnW e) (hl : es.length ≤ 12) (post : ∀ x m2, Keep b m m2 → Bag m2 b k → Th m2 x → P x m2) :
    callN T (n + 2) 0 360 [.ref b, .ref q] m P X := by
  rw [call_iff F_law_odd]
  refine ⟨rfl, ?_⟩
  have hSZ : (100000 : Nat) < SZ := by decide
  have hqb : q ≠ b := by
    obtain ⟨a1, a2, a3, h1, _⟩ := hb
    intro z
    subst z
    rw [hq] at h1
    cases es with
    | nil => cases h1
    | cons e es => cases h1
  unfold f_law_odd start
  simp only [List.map, List.length, List.replicate, List.cons_append, List.nil_append]
  refine seq_to (fun r1 m1 => ∃ w : Int, r1 = [some (.ref b), some (.ref q), some (.int w), none, none, none, none, none, none] ∧ 0 ≤ w ∧ w < 9 ∧ Keep b m m1 ∧ Bag m1 b (k + 1)) (fun nx hn => ?_) ?_
  · simp [-Bool.exists_bool, F_law_take]
    exact take_ok F_law_take hb (by decide) (by decide) fun w m1 w0 w1 k1 b1 => hn _ _ ⟨w, rfl, w0, w1, k1, b1⟩
  rintro _ m1 ⟨w, rfl, w0, w1, k1, b1⟩
  have q1 := k1 _ _ hqb hq
  have cases9 : w = 0 ∨ w = 1 ∨ w = 2 ∨ w = 3 ∨ w = 4 ∨ w = 5 ∨ w = 6 ∨ w = 7 ∨ w = 8 := by omega
  by_cases h0 : es.length = 0
  · refine seq_to (fun _ _ => False) (fun nx hn => ?_) (fun _ _ h => h.elim)
    simp [-Bool.exists_bool, len_ref q1, h0]
    intro p1 h1 p2 h2 p3 h3 p4 h4 p5 h5 p6 h6 p7 h7 p8 h8
    have e1 := Ext.new (o := .lst [.tup [.int 0, .int 0, .int 0, .str [97]]]) h1
    have e2 := Ext.new (o := .lst [.tup []]) h2
    have e3 := Ext.new (o := .lst [.tup [.int 0, .int 0, .int 0]]) h3
    have e4 := Ext.new (o := .lst [.non]) h4
    have e5 := Ext.new (o := .lst [.tup [.int 0, .int 0, .int 0, .str []]]) h5
    have e6 := Ext.new (o := .lst [.tup [.int 0, .int 4, .int 0, .str [97]]]) h6
    have e7 := Ext.new (o := .lst [.str [97]]) h7
    have e8 := Ext.new (o := .lst [.ref p1, .tup [], .non, .ref p2, .ref p3, .ref p4, .ref p5, .ref p6, .ref p7]) h8
    have ea := (((((((e1.trans e2).trans e3).trans e4).trans e5).trans e6).trans e7).trans e8)
    have fin : ∀ x, Th _ x → P x _ := fun x hx => post x _ (k1.trans ea.keep) ((b1.mono (by omega)).ext ea) hx
    rw [x_ref up_at]
    rcases cases9 with rfl | rfl | rfl | rfl | rfl | rfl | rfl | rfl | rfl
    · exact ⟨_, rfl, fin _ (th_one (e8 _ _ (e7 _ _ (e6 _ _ (e5 _ _ (e4 _ _ (e3 _ _ (e2 _ _ up_at))))))) (.en (by simp) (by decide)))⟩
    · exact ⟨_, rfl, fin _ (.tup (by simp) fun d hd => nomatch hd)⟩
    · exact ⟨_, rfl, fin _ .non⟩
    · exact ⟨_, rfl, fin _ (th_one (e8 _ _ (e7 _ _ (e6 _ _ (e5 _ _ (e4 _ _ (e3 _ _ up_at)))))) .tup0)⟩
    · exact ⟨_, rfl, fin _ (th_one (e8 _ _ (e7 _ _ (e6 _ _ (e5 _ _ (e4 _ _ up_at))))) .tup3)⟩
    · exact ⟨_, rfl, fin _ (th_one (e8 _ _ (e7 _ _ (e6 _ _ (e5 _ _ up_at)))) .non)⟩
    · exact ⟨_, rfl, fin _ (th_one (e8 _ _ (e7 _ _ (e6 _ _ up_at))) (.en (by simp) (by decide)))⟩
    · exact ⟨_, rfl, fin _ (th_one (e8 _ _ (e7 _ _ up_at)) (.en (by simp) (by decide)))⟩
    · exact ⟨_, rfl, fin _ (th_one (e8 _ _ up_at) .str)⟩
  · refine seq_eq [some (.ref b), some (.ref q), some (.int w), none, none, none, none, none, none] m1 (fun nx hn => by simp [-Bool.exists_bool, len_ref q1, h0]; exact hn) ?_
    refine seq_to (fun r1 m2 => ∃ i : Nat, r1 = [some (.ref b), some (.ref q), some (.int w), some (.int i), none, none, none, none, none] ∧ i < es.length ∧ Keep b m m2 ∧ Bag m2 b k) (fun nx hn => ?_) ?_
    · simp [-Bool.exists_bool, len_ref q1, F_law_take]
      refine take_ok F_law_take b1 (by omega) (by omega) fun z m2 z0 z1 k2 b2 => hn _ _ ⟨z.toNat, ?_, by omega, k1.trans k2, b2⟩
      rw [show ((z.toNat : Nat) : Int) = z by omega]
    rintro _ m2 ⟨i, rfl, hi, k2, b2⟩
    have q2 := k2 _ _ hqb hq
    obtain ⟨s, p, u, t, he⟩ : ∃ s p u t, es[i] = (s, p, u, t) := ⟨_, _, _, _, rfl⟩
    have hw : EnW (s, p, u, t) := by rw [← he]; exact hg _ (List.getElem_mem hi)
    have ge : atI (es.map entD) (i : Int) = some (.tup [.int s, .int p, .int u, .str t]) := by
      rw [atI_nat (by rw [List.length_map]; exact hi)]
      simp [he, entD]
    let V : Mn.Env := [some (.ref b), some (.ref q), some (.int w), some (.int i), some (.int s), some (.int p), some (.int u), some (.str t), none]
    refine seq_eq V m2 (fun nx hn => by simp [-Bool.exists_bool, x_ref q2, ge]; exact ⟨rfl, hn⟩) ?_
    have tl : t.length ≤ 20 := hw.2.2
    have tk : okn t = true := hw.1
    have spl : ∀ (F : Mn.E) (m3 : Hm) (Q : PD), Ext m2 m3 → (∀ (Q2 : PD) (m4 : Hm), Ext m2 m4 → (∀ d m5, Ext m4 m5 → It m5 d → Q2 d m5) → wpE (Mn.sg T (n + 1)) F (fun c _ m2 => X c m2) V m4 Q2) → (∀ r m5, Ext m3 m5 → Th m5 (.ref r) → Q (.ref r) m5) →
        wpE (Mn.sg T (n + 1)) (.bin .add (.bin .add (.slc (.var 1) .no (.yes (.var 3))) (.lst (.cons F .nil))) (.slc (.var 1) (.yes (.bin .add (.var 3) (.num 1))) .no)) (fun c _ m2 => X c m2) V m3 Q := fun F m3 Q e3 hF hQ => by
      have q3 := e3 _ _ q2
      simp [-Bool.exists_bool, V]
      rw [sl_ref q3, map_to (Nat.le_of_lt hi)]
      intro p1 h1
      have e1 := Ext.new (o := .lst ((es.take i).map entD)) h1
      refine hF _ _ (e3.trans e1) fun d m5 e5 hd => ?_
      intro p2 h2
      have e2 := Ext.new (o := .lst [d]) h2
      rw [add_ref (e2 _ _ (e5 _ _ up_at)) up_at]
      refine ⟨by simp only [List.length_map, List.length_take, List.length_cons, List.length_nil]; omega, fun p3 h3 => ?_⟩
      have e4 := Ext.new (o := .lst ((es.take i).map entD ++ [d])) h3
      have eq3 : Ext m3 _ := ((e1.trans e5).trans e2).trans e4
      rw [sl_ref (eq3 _ _ q3), show (i : Int) + 1 = ((i + 1 : Nat) : Int) by omega, map_from hi]
      intro p4 h4
      have e6 := Ext.new (o := .lst ((es.drop (i + 1)).map entD)) h4
      rw [add_ref (e6 _ _ up_at) up_at]
      refine ⟨by simp only [List.length_map, List.length_append, List.length_take, List.length_drop, List.length_cons, List.length_nil]; omega, fun p5 h5 => ?_⟩
      have e7 := Ext.new (o := .lst ((es.take i).map entD ++ [d] ++ (es.drop (i + 1)).map entD)) h5
      refine hQ _ _ ((eq3.trans e6).trans e7) (.ref up_at (by simp only [List.length_map, List.length_append, List.length_take, List.length_drop, List.length_cons, List.length_nil]; omega) fun x hx => ?_)
      rcases List.mem_append.mp hx with hx | hx
      · rcases List.mem_append.mp hx with hx | hx
        · exact its_of (fun e he => hg e (List.mem_of_mem_take he)) x hx
        · rw [List.mem_singleton.mp hx]
          exact hd.ext (((e2.trans e4).trans e6).trans e7)
      · exact its_of (fun e he => hg e (List.mem_of_mem_drop he)) x hx
    have spa : ∀ (F : Mn.E) (m3 : Hm) (Q : PD), Ext m2 m3 → (∀ (Q2 : PD) (m4 : Hm), Ext m2 m4 → (∀ d m5, Ext m4 m5 → It m5 d → Q2 d m5) → wpE (Mn.sg T (n + 1)) F (fun c _ m2 => X c m2) V m4 Q2) → (∀ r m5, Ext m3 m5 → Th m5 (.ref r) → Q (.ref r) m5) →
        wpE (Mn.sg T (n + 1)) (.bin .add (.bin .add (.slc (.var 1) .no (.yes (.var 3))) (.lst (.cons F .nil))) (.slc (.var 1) (.yes (.var 3)) .no)) (fun c _ m2 => X c m2) V m3 Q := fun F m3 Q e3 hF hQ => by
      have q3 := e3 _ _ q2
      simp [-Bool.exists_bool, V]
      rw [sl_ref q3, map_to (Nat.le_of_lt hi)]
      intro p1 h1
      have e1 := Ext.new (o := .lst ((es.take i).map entD)) h1
      refine hF _ _ (e3.trans e1) fun d m5 e5 hd => ?_
      intro p2 h2
      have e2 := Ext.new (o := .lst [d]) h2
      rw [add_ref (e2 _ _ (e5 _ _ up_at)) up_at]
      refine ⟨by simp only [List.length_map, List.length_take, List.length_cons, List.length_nil]; omega, fun p3 h3 => ?_⟩
      have e4 := Ext.new (o := .lst ((es.take i).map entD ++ [d])) h3
      have eq3 : Ext m3 _ := ((e1.trans e5).trans e2).trans e4
      rw [sl_ref (eq3 _ _ q3), map_from (Nat.le_of_lt hi)]
      intro p4 h4
      have e6 := Ext.new (o := .lst ((es.drop i).map entD)) h4
      rw [add_ref (e6 _ _ up_at) up_at]
      refine ⟨by simp only [List.length_map, List.length_append, List.length_take, List.length_drop, List.length_cons, List.length_nil]; omega, fun p5 h5 => ?_⟩
      have e7 := Ext.new (o := .lst ((es.take i).map entD ++ [d] ++ (es.drop i).map entD)) h5
      refine hQ _ _ ((eq3.trans e6).trans e7) (.ref up_at (by simp only [List.length_map, List.length_append, List.length_take, List.length_drop, List.length_cons, List.length_nil]; omega) fun x hx => ?_)
      rcases List.mem_append.mp hx with hx | hx
      · rcases List.mem_append.mp hx with hx | hx
        · exact its_of (fun e he => hg e (List.mem_of_mem_take he)) x hx
        · rw [List.mem_singleton.mp hx]
          exact hd.ext (((e2.trans e4).trans e6).trans e7)
      · exact its_of (fun e he => hg e (List.mem_of_mem_drop he)) x hx
    have srt : ∀ (F : Mn.E) (e : En) (m3 : Hm) (Q : PD), EnW e → Ext m2 m3 → (∀ (Q2 : PD) (m4 : Hm), Q2 (entD e) m4 → wpE (Mn.sg T (n + 1)) F (fun c _ m2 => X c m2) V m4 Q2) → (∀ r m5, Ext m3 m5 → Th m5 (.ref r) → Q (.ref r) m5) →
        wpE (Mn.sg T (n + 1)) (.bcall .sorted (.cons (.bin .add (.var 1) (.lst (.cons F .nil))) .nil)) (fun c _ m2 => X c m2) V m3 Q := fun F e m3 Q he e3 hF hQ => by
      have q3 := e3 _ _ q2
      simp [-Bool.exists_bool, V]
      refine hF _ _ ?_
      intro p1 h1
      have e1 := Ext.new (o := .lst [entD e]) h1
      rw [add_ref (e1 _ _ q3) up_at]
      refine ⟨by simp only [List.length_map, List.length_cons, List.length_nil]; omega, fun p2 h2 => ?_⟩
      have e2 := Ext.new (o := .lst (es.map entD ++ [entD e])) h2
      have hall : ∀ x ∈ es ++ [e], EnW x := fun x hx => by
        rcases List.mem_append.mp hx with h | h
        · exact hg x h
        · rw [List.mem_singleton.mp h]; exact he
      refine sorted_entD (es := es ++ [e]) (by rw [List.map_append]; exact up_at) (fun x hx => (hall x hx).tx) (by simp only [List.length_append, List.length_cons, List.length_nil]; omega) fun p3 h3 => ?_
      have e4 := Ext.new (o := .lst (((es ++ [e]).mergeSort leE).map entD)) h3
      refine hQ _ _ ((e1.trans e2).trans e4) (.ref up_at ?_ ?_)
      · rw [List.length_map, List.length_mergeSort]
        simp only [List.length_append, List.length_cons, List.length_nil]; omega
      · exact its_of fun x hx => hall x ((List.mergeSort_perm _ leE).mem_iff.mp hx)
    refine seq_to (fun r1 m9 => ∃ p9 x1 x2 x3 x4 x5 x6 x7 x8 x9, r1 = V.set 8 (some (.ref p9)) ∧ Ext m2 m9 ∧ m9 p9 = some (.lst [x1, x2, x3, x4, x5, x6, x7, x8, x9]) ∧ (Th m9 x1 ∧ Th m9 x2 ∧ Th m9 x3 ∧ Th m9 x4 ∧ Th m9 x5 ∧ Th m9 x6 ∧ Th m9 x7 ∧ Th m9 x8 ∧ Th m9 x9)) (fun nx hn => ?_) ?_
    · simp only [w_asg, w_lst, w_cons, w_nil]
      -- one left out
      have c1 : ∀ (Q : PD), (∀ r m5, Ext m2 m5 → Th m5 (.ref r) → Q (.ref r) m5) → wpE (Mn.sg T (n + 1)) (.bin .add (.slc (.var 1) .no (.yes (.var 3))) (.slc (.var 1) (.yes (.bin .add (.var 3) (.num 1))) .no)) (fun c _ m2 => X c m2) V m2 Q := fun Q hQ => by
        simp [-Bool.exists_bool, V]
        rw [sl_ref q2, map_to (Nat.le_of_lt hi)]
        intro p1 h1
        have e1 := Ext.new (o := .lst ((es.take i).map entD)) h1
        rw [sl_ref (e1 _ _ q2), show (i : Int) + 1 = ((i + 1 : Nat) : Int) by omega, map_from hi]
        intro p2 h2
        have e2 := Ext.new (o := .lst ((es.drop (i + 1)).map entD)) h2
        rw [add_ref (e2 _ _ up_at) up_at]
        refine ⟨by simp only [List.length_map, List.length_take, List.length_drop]; omega, fun p3 h3 => ?_⟩
        have e3 := Ext.new (o := .lst ((es.take i).map entD ++ (es.drop (i + 1)).map entD)) h3
        refine hQ _ _ ((e1.trans e2).trans e3) (.ref up_at (by simp only [List.length_map, List.length_append, List.length_take, List.length_drop]; omega) fun x hx => ?_)
        rcases List.mem_append.mp hx with hx | hx
        · exact its_of (fun e he => hg e (List.mem_of_mem_take he)) x hx
        · exact its_of (fun e he => hg e (List.mem_of_mem_drop he)) x hx
      refine c1 _ fun r1 n1 f1 t1 => ?_
      refine spa _ _ _ f1 (fun Q2 m4 f hQ2 => ?_) fun r2 n2 f2 t2 => ?_
      · simp [-Bool.exists_bool, V, x_ref (f _ _ q2), ge]
        exact hQ2 _ _ .refl (hw.it (m := m4))
      have g2 := f1.trans f2
      have c3 : ∀ (Q : PD), (∀ r m5, Ext n2 m5 → Th m5 (.ref r) → Q (.ref r) m5) → wpE (Mn.sg T (n + 1)) (.rev (.var 1)) (fun c _ m2 => X c m2) V n2 Q := fun Q hQ => by
        simp [-Bool.exists_bool, V, revW, getL, g2 _ _ q2, newO]
        intro p1 h1
        refine hQ _ _ (Ext.new h1) (.ref up_at (by simpa using (show es.length ≤ 20 by omega)) fun x hx => its_of hg x (by simpa using hx))
      refine c3 _ fun r3 n3 f3 t3 => ?_
      have g3 := g2.trans f3
      have c4 : ∀ (Q : PD), Q (.tup (es.map entD)) n3 → wpE (Mn.sg T (n + 1)) (.bcall .tuple (.cons (.var 1) .nil)) (fun c _ m2 => X c m2) V n3 Q := fun Q hQ => by
        simp [-Bool.exists_bool, V, tuple_ref (g3 _ _ q2)]
        exact hQ
      refine c4 _ ?_
      have t4 : Th n3 (.tup (es.map entD)) := .tup (by rw [List.length_map]; omega) (its_of hg)
      refine spl _ _ _ g3 (fun Q2 m4 f hQ2 => ?_) fun r5 n5 f5 t5 => ?_
      · have : t.length + 1 ≤ SZ := by omega
        simp [-Bool.exists_bool, V, this]
        exact hQ2 _ _ .refl (.en (by simp; omega) (by rw [okn_app, tk]; rfl))
      have g5 := g3.trans f5
      refine srt _ (s + 1, p, u, t) _ _ hw g5 (fun Q2 m4 hQ2 => by simp [-Bool.exists_bool, V]; exact hQ2) fun r6 n6 f6 t6 => ?_
      have g6 := g5.trans f6
      refine srt _ (0, 3, 998, [110, 101, 119]) _ _ ⟨by decide, by decide, by decide⟩ g6 (fun Q2 m4 hQ2 => by simp [-Bool.exists_bool, V]; exact hQ2) fun r7 n7 f7 t7 => ?_
      have g7 := g6.trans f7
      refine spl _ _ _ g7 (fun Q2 m4 f hQ2 => ?_) fun r8 n8 f8 t8 => ?_
      · have h1 : t.length ≤ SZ := by omega
        have h2 : cut t none (some 1) = t.take 1 := cut_to (i := 1) hw.2.1
        have h3 : (t.take 1).length ≤ 1 := by rw [List.length_take]; omega
        have h4 : (t.take 1).length * 21 ≤ SZ := by omega
        have h5 : okn (t.take 1) = true := by
          unfold okn at tk ⊢
          rw [List.all_eq_true] at tk ⊢
          exact fun c hc => tk c (List.mem_of_mem_take hc)
        simp [-Bool.exists_bool, V, h1, h2]
        refine ⟨by omega, ?_⟩
        exact hQ2 _ _ .refl (.en (by have := rep_len h3 21; unfold repD; show (List.replicate 21 (t.take 1)).flatten.length ≤ 100; omega) (rep_ok h5 21))
      have g8 := g7.trans f8
      refine spl _ _ _ g8 (fun Q2 m4 f hQ2 => ?_) fun r9 n9 f9 t9 => ?_
      · simp [-Bool.exists_bool, V]
        intro p1 h1
        have e1 := Ext.new (o := .lst [.int s, .int p, .int u, .str t]) h1
        refine hQ2 _ _ e1 (.ref up_at ?_ rfl)
        have := okn_pln tk
        unfold pln at this
        simp only [D.flats, D.flat, Bool.true_and, Bool.and_true]
        exact this
      intro p9 h9
      have e9 := Ext.new (o := .lst [.ref r1, .ref r2, .ref r3, .tup (es.map entD), .ref r5, .ref r6, .ref r7, .ref r8, .ref r9]) h9
      simp [-Bool.exists_bool, V]
      exact hn _ _ ⟨p9, _, _, _, _, _, _, _, _, _, rfl, (g8.trans f9).trans e9, up_at, t1.ext (((((((f2.trans f3).trans f5).trans f6).trans f7).trans f8).trans f9).trans e9), t2.ext ((((((f3.trans f5).trans f6).trans f7).trans f8).trans f9).trans e9),
        t3.ext (((((f5.trans f6).trans f7).trans f8).trans f9).trans e9), t4.ext (((((f5.trans f6).trans f7).trans f8).trans f9).trans e9), t5.ext ((((f6.trans f7).trans f8).trans f9).trans e9), t6.ext (((f7.trans f8).trans f9).trans e9), t7.ext ((f8.trans f9).trans e9), t8.ext (f9.trans e9), t9.ext e9⟩
    rintro _ m9 ⟨p9, x1, x2, x3, x4, x5, x6, x7, x8, x9, rfl, e9, h9, t1, t2, t3, t4, t5, t6, t7, t8, t9⟩
    simp [-Bool.exists_bool, V]
    have fin : ∀ x, Th m9 x → P x m9 := fun x hx => post x _ (k2.trans e9.keep) (b2.ext e9) hx
    rw [x_ref h9]
    rcases cases9 with rfl | rfl | rfl | rfl | rfl | rfl | rfl | rfl | rfl
    · exact ⟨_, rfl, fin _ t1⟩
    · exact ⟨_, rfl, fin _ t2⟩
    · exact ⟨_, rfl, fin _ t3⟩
    · exact ⟨_, rfl, fin _ t4⟩
    · exact ⟨_, rfl, fin _ t5⟩
    · exact ⟨_, rfl, fin _ t6⟩
    · exact ⟨_, rfl, fin _ t7⟩
    · exact ⟨_, rfl, fin _ t8⟩
    · exact ⟨_, rfl, fin _ t9⟩
end Mn.K55
end

section
set_option Elab.async false
set_option linter.all false
set_option maxRecDepth 100000
set_option maxHeartbeats 4000000
set_option pp.maxSteps 600
namespace Mn.K55
open Mn
variable {n : Nat} {m : Hm} {P : PD} {X : Nat → Hm → Prop}
theorem form_eq {a b : List Nat} {i j : Int} (ha : pln a = true) (hb : pln b = true) (h : P (.bl (decide (a = b) && decide (i = j))) m) : cmpW .eq (.tup [.str a, .int i]) (.tup [.str b, .int j]) m P := by
  have fa : ∀ (a : List Nat) (i : Int), pln a = true → D.flat 60 (.tup [.str a, .int i]) = true := fun a i h => by
    have : D.flat 59 (.str a) = true := h
    show (D.flat 59 (.str a) && _) = true
    rw [this]; rfl
  rw [eq_eq_]
  refine eq_flat (fa a i ha) (fa b j hb) ?_
  have e : D.eqv (.tup [.str a, .int i]) (.tup [.str b, .int j]) = (decide (a = b) && decide (i = j)) := by
    simp only [D.eqv, D.eqvs, List.isEmpty_nil, Bool.and_true]
    congr 1
    rw [Bool.eq_iff_iff]; simp
  rw [e]
  simpa using h
def wJ : List Nat := [106, 111, 105, 110, 101, 100]
theorem s_holds_j {x y z p : D} (h : cmpW .is_ p .non m fun v m1 => ∃ b, truth m1 v = some b ∧ if b = true then callN T (n + 4) 0 298 [x, y, z] m1 P X else P v m1) : callN T (n + 5) 0 161 [.tup [.str wJ, x, y, z], p] m P X := by
  rw [call_iff F_holds]
  refine ⟨rfl, ?_⟩
  unfold f_holds start
  simp only [List.map, List.length, List.replicate, List.cons_append, List.nil_append]
  have a0 : atI [D.str wJ, x, y, z] 0 = some (.str wJ) := rfl
  refine seq_eq [some (.tup [.str wJ, x, y, z]), some p, none] m (fun nx hn => by simp [-Bool.exists_bool, a0]; exact hn) ?_
  let E : Mn.Env := [some (.tup [.str wJ, x, y, z]), some p, some (.tup [.str wJ, .int 4])]
  refine seq_eq E m (fun nx hn => by simp [-Bool.exists_bool, a0]; exact hn) ?_
  refine seq_eq E m (fun nx hn => ?_) ?_
  · simp [-Bool.exists_bool, E]
    refine form_eq (by decide) (by decide) ?_
    simp [-Bool.exists_bool, wJ]
    exact hn
  refine seq_eq E m (fun nx hn => ?_) ?_
  · simp [-Bool.exists_bool, E]
    refine form_eq (by decide) (by decide) ?_
    simp [-Bool.exists_bool, wJ]
    exact hn
  refine seq_eq E m (fun nx hn => ?_) ?_
  · simp [-Bool.exists_bool, E]
    refine form_eq (by decide) (by decide) ?_
    simp [-Bool.exists_bool, wJ]
    exact hn
  refine seq_eq E m (fun nx hn => ?_) ?_
  · simp [-Bool.exists_bool, E]
    refine form_eq (by decide) (by decide) ?_
    simp [-Bool.exists_bool, wJ]
    exact hn
  refine seq_to (fun _ _ => False) (fun nx hn => ?_) (fun _ _ h => h.elim)
  have a1 : atI [D.str wJ, x, y, z] 1 = some x := rfl
  have a2 : atI [D.str wJ, x, y, z] 2 = some y := rfl
  have a3 : atI [D.str wJ, x, y, z] 3 = some z := rfl
  simp [-Bool.exists_bool, E]
  refine form_eq (by decide) (by decide) ?_
  have hw : (wJ = [106, 111, 105, 110, 101, 100]) = True := by simp [wJ]
  simp [-Bool.exists_bool, hw, F_are_joined, a1, a2, a3]
  exact h
theorem s_holds_j3 {x y p : D} (h : P (.bl false) m) : callN T (n + 5) 0 161 [.tup [.str wJ, x, y], p] m P X := by
  rw [call_iff F_holds]
  refine ⟨rfl, ?_⟩
  unfold f_holds start
  simp only [List.map, List.length, List.replicate, List.cons_append, List.nil_append]
  have a0 : atI [D.str wJ, x, y] 0 = some (.str wJ) := rfl
  refine seq_eq [some (.tup [.str wJ, x, y]), some p, none] m (fun nx hn => by simp [-Bool.exists_bool, a0]; exact hn) ?_
  let E : Mn.Env := [some (.tup [.str wJ, x, y]), some p, some (.tup [.str wJ, .int 3])]
  refine seq_eq E m (fun nx hn => by simp [-Bool.exists_bool, a0]; exact hn) ?_
  refine seq_eq E m (fun nx hn => ?_) ?_
  · simp [-Bool.exists_bool, E]
    refine form_eq (by decide) (by decide) ?_
    simp [-Bool.exists_bool, wJ]
    exact hn
  refine seq_eq E m (fun nx hn => ?_) ?_
  · simp [-Bool.exists_bool, E]
    refine form_eq (by decide) (by decide) ?_
    simp [-Bool.exists_bool, wJ]
    exact hn
  refine seq_eq E m (fun nx hn => ?_) ?_
  · simp [-Bool.exists_bool, E]
    refine form_eq (by decide) (by decide) ?_
    simp [-Bool.exists_bool, wJ]
    exact hn
  refine seq_eq E m (fun nx hn => ?_) ?_
  · simp [-Bool.exists_bool, E]
    refine form_eq (by decide) (by decide) ?_
    simp [-Bool.exists_bool, wJ]
    exact hn
  refine seq_eq E m (fun nx hn => ?_) ?_
  · simp [-Bool.exists_bool, E]
    refine form_eq (by decide) (by decide) ?_
    simp [-Bool.exists_bool, wJ]
    exact hn
  simp [-Bool.exists_bool, E]
  refine form_eq (by decide) (by decide) ?_
  simp [-Bool.exists_bool, wJ]
  exact h
end Mn.K55
end

section
set_option Elab.async false
set_option linter.all false
set_option maxRecDepth 100000
set_option maxHeartbeats 4000000
set_option pp.maxSteps 600
namespace Mn.K55
open Mn
variable {n : Nat} {m m2 : Hm} {P : PD} {X : Nat → Hm → Prop}
/-- entries as the law draws them -/
structure Gd (es : List En) : Prop where
  w : ∀ e ∈ es, EnW e
  g : ∀ e ∈ es, EnG e
  nd : (es.map fun e => e.2.2.1).Nodup
  l : es.length ≤ 12
theorem Gd.sub {es fs : List En} (h : Gd es) (hs : fs.Sublist es) : Gd fs :=
  ⟨fun e he => h.w e (hs.subset he), fun e he => h.g e (hs.subset he), h.nd.sublist (hs.map _), Nat.le_trans hs.length_le h.l⟩
theorem Gd.perm {es fs : List En} (h : Gd es) (hs : fs.Perm es) : Gd fs :=
  ⟨fun e he => h.w e (hs.mem_iff.mp he), fun e he => h.g e (hs.mem_iff.mp he), (hs.map _).nodup_iff.mpr h.nd, by rw [hs.length_eq]; exact h.l⟩
theorem Gd.sort {es : List En} (h : Gd es) : Gd (es.mergeSort leE) ∧ Srt (es.mergeSort leE) :=
  ⟨h.perm (List.mergeSort_perm _ _), sort_E _, (List.mergeSort_perm es leE).nodup_iff.mpr (List.Pairwise.of_map _ (fun _ _ hne e => hne (congrArg (fun e : En => e.2.2.1) e)) h.nd)⟩
theorem Gd.kI {es : List En} (h : Gd es) : (es.map kI).Nodup := by
  have := h.nd
  refine List.pairwise_map.mpr ((List.pairwise_map.mp this).imp fun {a b} hne e => hne ?_)
  simp only [Mn.K55.kI, List.cons.injEq, and_true] at e
  exact e.2
theorem Gd.th {es : List En} {q : Nat} (h : Gd es) (hq : m q = some (.lst (es.map entD))) : Th m (.ref q) := .ref hq (by rw [List.length_map]; have := h.l; omega) (its_of h.w)
theorem Gd.lg {es : List En} {q : Nat} (h : Gd es) (hs : Srt es) (hq : m q = some (.lst (es.map entD))) : lgOf m (.ref q) = some es := by
  rw [lgOf_ref hq]
  unfold lgD
  rw [ensOf_map h.g]
  simp [(risE_srt es).mpr hs]
theorem jx_self {es : List En} {q : Nat} (h : Gd es) (hs : Srt es) (hq : m q = some (.lst (es.map entD))) : jx m (.ref q) (.ref q) (.ref q) = true := by
  unfold jx
  rw [h.lg hs hq]
  simp only [jB, h.kI, decide_true, Bool.true_and, Bool.and_eq_true, List.all_eq_true, Bool.or_eq_true, decide_eq_true_eq]
  exact ⟨⟨fun e he => he, fun e he => he⟩, fun e he => .inl he⟩
theorem enG_of {s p u : Int} {t : List Nat} (h : EnW (s, p, u, t)) (h0 : 0 ≤ s) (h1 : s < 1000) (h2 : 0 ≤ p) (h3 : p < 4) (h4 : 0 ≤ u) (h5 : u < 1000) : EnG (s, p, u, t) := by
  obtain ⟨a, b, c⟩ := h
  simp only at a b c
  unfold EnG enG
  simp only [isI, a, Bool.and_true, Bool.and_eq_true, decide_eq_true_eq]
  omega
theorem nin_ents {q : Nat} {x : En} {es : List En} (hq : m q = some (.lst (es.map entD))) (hx : TxP x) (he : ∀ e ∈ es, TxP e) (post : P (.bl (!decide (x ∈ es))) m) : cmpW .nin (entD x) (.ref q) m P := by
  rw [nin_eq]
  refine in_flat hq (flat_entD (k := 58) hx) (flats_entD (k := 58) he) ?_
  have e : ((es.map entD).any fun z => D.eqv z (entD x)) = decide (x ∈ es) := by
    rw [Bool.eq_iff_iff]
    simp only [List.any_eq_true, List.mem_map, decide_eq_true_eq]
    constructor
    · rintro ⟨_, ⟨e, he, rfl⟩, h⟩
      rw [eqv_entD, decide_eq_true_eq] at h
      rw [← h]; exact he
    · intro h
      exact ⟨_, ⟨x, h, rfl⟩, by rw [eqv_entD]; simp⟩
  rw [e]
  simpa using post
theorem It.keep {b k : Nat} {d : D} (h : It m d) (hb : Bag m b k) (hk : Keep b m m2) : It m2 d := by
  obtain ⟨b0, b2, b3, b4, _⟩ := hb
  cases h with
  | en h1 h2 => exact .en h1 h2
  | tup0 => exact .tup0
  | tup3 => exact .tup3
  | non => exact .non
  | str => exact .str
  | @ref a ds h1 h2 h3 =>
    refine .ref (hk a _ (fun z => ?_) h1) h2 h3
    subst z
    rw [b4] at h1
    cases h1
    cases h3
theorem Th.keep {b k : Nat} {x : D} (h : Th m x) (hb : Bag m b k) (hk : Keep b m m2) : Th m2 x := by
  cases h with
  | non => exact .non
  | tup h1 h2 => exact .tup h1 fun d hd => (h2 d hd).keep hb hk
  | @ref q ds h0 h1 h2 =>
    refine .ref (hk q _ (fun z => ?_) h0) h1 fun d hd => (h2 d hd).keep hb hk
    subst z
    obtain ⟨b0, b2, b3, b4, _⟩ := hb
    rw [b4] at h0
    cases h0
    nomatch h2 (.int b0) List.mem_cons_self
theorem is_non : cmpW .is_ .non .non m P = P (.bl true) m := rfl
theorem is_tup : cmpW .is_ (.tup []) .non m P = P (.bl false) m := rfl
theorem ne_bls {a : Bool} : cmpW .ne (.bl a) (.bl a) m P = P (.bl false) m := by cases a <;> rfl
theorem law_ok : ∀ ns : List Int, ns.length ≤ 63 → callN T 60 0 4 [.lst (ns.map D.int)] (fun _ => none) (fun d _ => d = .bl true) (fun _ _ => False) := by
  intro ns hns
  rw [call_iff F_law]
  refine ⟨rfl, ?_⟩
  have hSZ : (100000 : Nat) < SZ := by decide
  unfold f_law start
  simp only [List.map, List.length, List.replicate, List.cons_append, List.nil_append]
  let E (x1 x2 x3 x4 x5 x6 x7 x8 x9 xa xb xc : Option D) : Mn.Env := [some (.lst (ns.map D.int)), x1, x2, x3, x4, x5, x6, x7, x8, x9, xa, xb, xc]
  let I : Mn.Env → Hm → Prop := fun r1 m1 => ∃ x1 x2 x3 x4 x5 x6 x7 x8 x9 xa xb xc, r1 = E x1 x2 x3 x4 x5 x6 x7 x8 x9 xa xb xc
  refine seq_to I (fun nx hn => ?_) ?_
  · refine fr_shut fun B0 hB => ?_
    simp [-Bool.exists_bool]
    generalize hM : (if (1 : Int) < (if (ns.length : Int) < (8 : Int) then (ns.length : Int) else 8) then (if (ns.length : Int) < (8 : Int) then (ns.length : Int) else 8) else 1) = M
    have hM2 : 1 ≤ M ∧ M ≤ 8 := by rw [← hM]; split <;> split <;> omega
    refine ⟨⟨by omega, by omega⟩, ?_⟩
    refine loop_mem I ⟨none, none, none, none, none, none, none, none, none, none, none, none, rfl⟩ (fun x r m0 nx2 hx hI hn2 => ?_) fun r m hI => ⟨trivial, hn r m hI⟩
    obtain ⟨x1, x2, x3, x4, x5, x6, x7, x8, x9, xa, xb, xc, rfl⟩ := hI
    obtain ⟨kk, hi⟩ := List.mem_iff_getElem?.mp hx
    obtain ⟨rfl, hlt⟩ := range_get hi
    have hk : kk < 64 := by omega
    refine ⟨trivial, ?_⟩
    subst hB
    simp only [E, List.set, w_nm, Int.zero_add]
    refine seq_to (fun r1 m1 => ∃ b, r1 = E (some (.int (kk : Nat))) (some (.ref b)) x3 x4 x5 x6 x7 x8 x9 xa xb xc ∧ Bag m1 b 1000000) (fun nx hn => ?_) ?_
    · simp [-Bool.exists_bool, F_law_bag]
      exact bag_ok F_law_bag (by omega) (by omega) fun p m2 hp e2 b2 => hn _ _ ⟨p, rfl, b2⟩
    rintro _ m1 ⟨b, rfl, b1⟩
    -- the entries
    refine seq_to (fun r1 m2 => ∃ q es, r1 = E (some (.int (kk : Nat))) (some (.ref b)) (some (.ref q)) x4 x5 x6 x7 x8 x9 xa xb xc ∧ Bag m2 b 999000 ∧ m2 q = some (.lst (es.map entD)) ∧ Gd es ∧ q ≠ b) (fun nx hn => ?_) ?_
    · simp [-Bool.exists_bool, E, F_law_take]
      refine take_ok F_law_take (n := 999999) b1 (by decide) (by decide) fun z m2 z0 z1 k2 b2 => ?_
      have hin : inB z := ⟨by omega, by omega⟩
      simp [-Bool.exists_bool, hin]
      intro p hp
      have hpb : p ≠ b := by
        obtain ⟨o, ho⟩ := b2.at
        exact (ne_new hp ho).symm
      have hlen : (rangeD 0 z.toNat).length = z.toNat := by rw [rangeD_map]; simp
      refine comp_inv (fun k acc m3 => m3 p = some (.lst acc) ∧ Bag m3 b (999000 + 30 * (12 - k)) ∧ ∃ es : List En, acc = es.map entD ∧ es.length = k ∧ (∀ e ∈ es, EnW e ∧ EnG e) ∧ es.map (fun e => e.2.2.1) = (List.range k).map fun i => ((i : Nat) : Int)) (k := 0)
        ⟨up_at, (b2.mono (by omega)).off hpb.symm, [], rfl, rfl, (fun _ h => nomatch h), rfl⟩ (by rw [hlen]; simp; omega) (fun i x acc m3 Q1 Q2 hx ⟨h3, b3, es, ea, el, eg, en⟩ q1 q2 => ⟨trivial, ?_⟩) fun acc m3 ⟨h3, b3, es, ea, el, eg, en⟩ => ⟨trivial, ?_⟩
      · obtain ⟨rfl, hiz⟩ := range_get hx
        simp only [Nat.zero_add, Int.zero_add] at *
        simp [-Bool.exists_bool, wipe, F_law_entry]
        refine s_law_entry (n := 57) (k := 999000 + 30 * (12 - (i + 1))) (u := (i : Int)) (b3.mono (by omega)) (by omega) fun s pp t m4 k4 b4 hw s0 s1 p0 p1 => ?_
        refine q1 _ m4 (k4 _ _ hpb h3) ⟨up_at, b4.off hpb.symm, es ++ [(s, pp, (i : Int), t)], by rw [ea, List.map_append]; rfl, by simp [el], fun e he => ?_, ?_⟩
        · rcases List.mem_append.mp he with h | h
          · exact eg e h
          · rw [List.mem_singleton.mp h]
            exact ⟨hw, enG_of hw s0 s1 p0 p1 (by omega) (by omega)⟩
        · rw [List.map_append, en, List.range_succ, List.map_append]
          rfl
      · simp only [Nat.zero_add] at *
        subst ea
        rw [hlen] at el en
        refine hn _ _ ⟨p, es, rfl, b3.mono (by omega), h3, ⟨fun e he => (eg e he).1, fun e he => (eg e he).2, ?_, by omega⟩, hpb⟩
        rw [en]
        exact List.pairwise_map.mpr (List.nodup_range.imp fun {a b} hne e => hne (by omega))
    clear b1 m1
    rintro _ m1 ⟨qe, es, rfl, b1, he, ge, qeb⟩
    -- a list of some of them, sorted
    refine seq_to (fun r1 m2 => ∃ q one, r1 = E (some (.int (kk : Nat))) (some (.ref b)) (some (.ref qe)) x4 (some (.ref q)) x6 x7 x8 x9 xa xb xc ∧ Bag m2 b 998000 ∧ m2 qe = some (.lst (es.map entD)) ∧ m2 q = some (.lst (one.map entD)) ∧ Gd one ∧ Srt one ∧ q ≠ b) (fun nx hn => ?_) ?_
    · simp [-Bool.exists_bool, E, F_law_take]
      rw [walk_ref he]
      intro p hp
      have hpb : p ≠ b := by
        obtain ⟨o, ho⟩ := b1.at
        exact (ne_new hp ho).symm
      have hqp : qe ≠ p := ne_new hp he
      have gl := ge.l
      refine comp_inv (fun k acc m3 => m3 p = some (.lst acc) ∧ m3 qe = some (.lst (es.map entD)) ∧ Bag m3 b (998000 + (12 - k)) ∧ ∃ fs : List En, acc = fs.map entD ∧ fs.Sublist (es.take k)) (k := 0)
        ⟨up_at, get_new hp he, (b1.mono (by omega)).off hpb.symm, [], rfl, by simp⟩ (by rw [List.length_map]; simp; omega) (fun i x acc m3 Q1 Q2 hx ⟨h3, h4, b3, fs, ea, ef⟩ q1 q2 => ⟨h4, ?_⟩) fun acc m3 ⟨h3, h4, b3, fs, ea, ef⟩ => ⟨h4, ?_⟩
      · simp only [Nat.zero_add] at *
        rw [List.getElem?_map] at hx
        cases hxe : es[i]? with
        | none => rw [hxe] at hx; cases hx
        | some e =>
          rw [hxe] at hx
          cases hx
          have hil : i < es.length := (List.getElem?_eq_some_iff.mp hxe).1
          have tk : es.take (i + 1) = es.take i ++ [e] := by rw [List.take_succ, hxe] <;> rfl
          simp [-Bool.exists_bool, wipe, F_law_take]
          refine take_ok F_law_take (n := 998000 + (12 - (i + 1))) (b3.mono (by omega)) (by decide) (by decide) fun y m4 y0 y1 k4 b4 => ?_
          have g3 := k4 _ _ hpb h3
          have g4 := k4 _ _ qeb h4
          by_cases hy : y = 0
          · subst hy
            simp [-Bool.exists_bool]
            refine q1 _ m4 g3 ⟨up_at, by rw [up_off hqp]; exact g4, b4.off hpb.symm, fs ++ [e], by rw [ea, List.map_append]; rfl, ?_⟩
            rw [tk]
            exact ef.append (List.Sublist.refl _)
          · simp [-Bool.exists_bool, hy]
            exact q2 m4 ⟨g3, g4, b4, fs, ea, by rw [tk]; exact ef.trans (List.sublist_append_left _ _)⟩
      · simp only [Nat.zero_add, List.length_map] at *
        subst ea
        rw [List.take_length] at ef
        have gf := ge.sub ef
        have gs := gf.sort
        refine sorted_entD h3 (fun e he => (gf.w e he).tx) (by have := gf.l; omega) fun p2 hp2 => ?_
        have e2 := Ext.new (o := .lst ((fs.mergeSort leE).map entD)) hp2
        refine hn _ _ ⟨p2, _, rfl, (b3.mono (by omega)).ext e2, e2 _ _ h4, up_at, gs.1, gs.2, ?_⟩
        obtain ⟨o, ho⟩ := b3.at
        exact (ne_new hp2 ho).symm
    clear b1 he m1
    rintro _ m1 ⟨q5, one, rfl, b1, he, h5, g5, s5, q5b⟩
    -- the other
    refine seq_to (fun r1 m2 => ∃ q oth, r1 = E (some (.int (kk : Nat))) (some (.ref b)) (some (.ref qe)) x4 (some (.ref q5)) x6 (some (.ref q)) x8 x9 xa xb xc ∧ Bag m2 b 997000 ∧ m2 qe = some (.lst (es.map entD)) ∧ m2 q5 = some (.lst (one.map entD)) ∧ m2 q = some (.lst (oth.map entD)) ∧ Gd oth ∧ q ≠ b) (fun nx hn => ?_) ?_
    · simp [-Bool.exists_bool, E, F_law_take]
      rw [walk_ref he]
      intro p hp
      have hpb : p ≠ b := by
        obtain ⟨o, ho⟩ := b1.at
        exact (ne_new hp ho).symm
      have hqp : qe ≠ p := ne_new hp he
      have h5p : q5 ≠ p := ne_new hp h5
      have gl := ge.l
      refine comp_inv (fun k acc m3 => m3 p = some (.lst acc) ∧ (m3 qe = some (.lst (es.map entD)) ∧ m3 q5 = some (.lst (one.map entD))) ∧ Bag m3 b (997000 + (12 - k)) ∧ ∃ fs : List En, acc = fs.map entD ∧ fs.Sublist (es.take k)) (k := 0)
        ⟨up_at, ⟨get_new hp he, get_new hp h5⟩, (b1.mono (by omega)).off hpb.symm, [], rfl, by simp⟩ (by rw [List.length_map]; simp; omega) (fun i x acc m3 Q1 Q2 hx ⟨h3, h4, b3, fs, ea, ef⟩ q1 q2 => ⟨h4.1, ?_⟩) fun acc m3 ⟨h3, h4, b3, fs, ea, ef⟩ => ⟨h4.1, ?_⟩
      · simp only [Nat.zero_add] at *
        rw [List.getElem?_map] at hx
        cases hxe : es[i]? with
        | none => rw [hxe] at hx; cases hx
        | some e =>
          rw [hxe] at hx
          cases hx
          have hil : i < es.length := (List.getElem?_eq_some_iff.mp hxe).1
          have hem : e ∈ es := List.mem_of_getElem? hxe
          have tk : es.take (i + 1) = es.take i ++ [e] := by rw [List.take_succ, hxe] <;> rfl
          have yes : ∀ m4, m4 p = some (.lst acc) → m4 qe = some (.lst (es.map entD)) → m4 q5 = some (.lst (one.map entD)) → Bag m4 b (997000 + (12 - (i + 1))) → Q1 (entD e) m4 := fun m4 g3 g4 g6 b4 =>
            q1 _ m4 g3 ⟨up_at, ⟨by rw [up_off hqp]; exact g4, by rw [up_off h5p]; exact g6⟩, b4.off hpb.symm, fs ++ [e], by rw [ea, List.map_append]; rfl, by rw [tk]; exact ef.append (List.Sublist.refl _)⟩
          simp [-Bool.exists_bool, wipe, F_law_take]
          refine nin_ents h4.2 (ge.w e hem).tx (fun e he => (g5.w e he).tx) ?_
          by_cases hin : e ∈ one
          · simp [-Bool.exists_bool, hin]
            refine take_ok F_law_take (n := 997000 + (12 - (i + 1))) (b3.mono (by omega)) (by decide) (by decide) fun y m4 y0 y1 k4 b4 => ?_
            have g3 := k4 _ _ hpb h3
            have g4 := k4 _ _ qeb h4.1
            have g6 := k4 _ _ q5b h4.2
            by_cases hy : y = 0
            · subst hy
              simp [-Bool.exists_bool]
              exact yes m4 g3 g4 g6 b4
            · simp [-Bool.exists_bool, hy]
              exact q2 m4 ⟨g3, ⟨g4, g6⟩, b4, fs, ea, by rw [tk]; exact ef.trans (List.sublist_append_left _ _)⟩
          · simp [-Bool.exists_bool, hin]
            exact yes m3 h3 h4.1 h4.2 (b3.mono (by omega))
      · simp only [Nat.zero_add, List.length_map] at *
        subst ea
        rw [List.take_length] at ef
        have gf := ge.sub ef
        have gs := gf.sort
        refine sorted_entD h3 (fun e he => (gf.w e he).tx) (by have := gf.l; omega) fun p2 hp2 => ?_
        have e2 := Ext.new (o := .lst ((fs.mergeSort leE).map entD)) hp2
        refine hn _ _ ⟨p2, _, rfl, (b3.mono (by omega)).ext e2, e2 _ _ h4.1, e2 _ _ h4.2, up_at, gs.1, ?_⟩
        obtain ⟨o, ho⟩ := b3.at
        exact (ne_new hp2 ho).symm
    clear b1 he h5 m1
    rintro _ m1 ⟨q7, oth, rfl, b1, he, h5, h7, g7, q7b⟩
    -- perhaps an odd one
    refine seq_to (fun r1 m2 => ∃ x7, r1 = E (some (.int (kk : Nat))) (some (.ref b)) (some (.ref qe)) x4 (some (.ref q5)) x6 (some x7) x8 x9 xa xb xc ∧ Bag m2 b 996000 ∧ m2 qe = some (.lst (es.map entD)) ∧ m2 q5 = some (.lst (one.map entD)) ∧ Th m2 x7) (fun nx hn => ?_) ?_
    · simp [-Bool.exists_bool, E, F_law_take]
      refine take_ok F_law_take (n := 996999) (b1.mono (by omega)) (by decide) (by decide) fun y m4 y0 y1 k4 b4 => ?_
      have g4 := k4 _ _ qeb he
      have g6 := k4 _ _ q5b h5
      have g8 := k4 _ _ q7b h7
      by_cases hy : y = 0
      · subst hy
        simp [-Bool.exists_bool, F_law_odd]
        refine s_law_odd (n := 57) (k := 996000) (b4.mono (by omega)) g8 g7.w g7.l fun x m5 k5 b5 hx => ?_
        exact hn _ _ ⟨x, rfl, b5, k5 _ _ qeb g4, k5 _ _ q5b g6, hx⟩
      · simp [-Bool.exists_bool, hy]
        exact hn _ _ ⟨_, rfl, b4.mono (by omega), g4, g6, g7.th g8⟩
    clear b1 he h5 h7 m1
    rintro _ m1 ⟨x7, rfl, b1, he, h5, t7⟩
    refine seq_to (fun r1 m2 => ∃ q lg, r1 = E (some (.int (kk : Nat))) (some (.ref b)) (some (.ref qe)) x4 (some (.ref q5)) x6 (some x7) (some (.ref q)) x9 xa xb xc ∧ Bag m2 b 996000 ∧ m2 q5 = some (.lst (one.map entD)) ∧ Th m2 x7 ∧ m2 q = some (.lst (lg.map entD)) ∧ Gd lg ∧ q ≠ b) (fun nx hn => ?_) ?_
    · simp [-Bool.exists_bool, E]
      have gs := ge.sort
      refine sorted_entD he (fun e he => (ge.w e he).tx) (by have := ge.l; omega) fun p2 hp2 => ?_
      have e2 := Ext.new (o := .lst ((es.mergeSort leE).map entD)) hp2
      refine hn _ _ ⟨p2, _, rfl, b1.ext e2, e2 _ _ h5, t7.ext e2, up_at, gs.1, ?_⟩
      obtain ⟨o, ho⟩ := b1.at
      exact (ne_new hp2 ho).symm
    clear b1 he h5 t7 m1
    rintro _ m1 ⟨q8, lg, rfl, b1, h5, t7, h8, g8, q8b⟩
    -- four logs, or what is none
    refine seq_to (fun r1 m2 => ∃ x9 xa xb xc, r1 = E (some (.int (kk : Nat))) (some (.ref b)) (some (.ref qe)) x4 (some (.ref q5)) x6 (some x7) (some (.ref q8)) x9 xa xb xc ∧ m2 q5 = some (.lst (one.map entD))) (fun nx hn => ?_) ?_
    · refine fr_shut fun B1 hB1 => ?_
      simp [-Bool.exists_bool, E, F_law_odd]
      refine s_law_odd (n := 57) (k := 995000) (b1.mono (by omega)) h8 g8.w g8.l fun o1 m2 k2 b2 t2 => ?_
      refine s_law_odd (n := 57) (k := 994000) (b2.mono (by omega)) (k2 _ _ q8b h8) g8.w g8.l fun o2 m3 k3 b3 t3 => ?_
      intro p hp
      rw [walk_ref up_at]
      have e4 := Ext.new (o := .lst [.ref q8, o1, o2, .ref q8]) hp
      have h53 := k3 _ _ q5b (k2 _ _ q5b h5)
      have h83 := k3 _ _ q8b (k2 _ _ q8b h8)
      have t73 : Th m3 x7 := (t7.keep b1 k2).keep b2 k3
      have t23 : Th m3 o1 := t2.keep b2 k3
      have t8 : Th m3 (.ref q8) := g8.th h83
      have t5 : Th m3 (.ref q5) := g5.th h53
      have allT : ∀ x ∈ [D.ref q8, o1, o2, .ref q8], Th m3 x := fun x hx => by
        simp only [List.mem_cons, List.not_mem_nil, or_false] at hx
        rcases hx with rfl | rfl | rfl | rfl
        · exact t8
        · exact t23
        · exact t3
        · exact t8
      refine loop_mem (fun r m4 => ∃ x9 xa xb xc, r = E (some (.int (kk : Nat))) (some (.ref b)) (some (.ref qe)) x4 (some (.ref q5)) x6 (some x7) (some (.ref q8)) x9 xa xb xc ∧ Ext (up m3 p (.lst [.ref q8, o1, o2, .ref q8])) m4) ⟨x9, xa, xb, xc, rfl, .refl⟩ (fun x r m4 nx2 hx ⟨x9, xa, xb, xc, er, em⟩ hn3 => ⟨em _ _ up_at, ?_⟩) fun r m4 ⟨x9, xa, xb, xc, er, em⟩ => ⟨em _ _ up_at, hn _ _ ⟨x9, xa, xb, xc, er, em _ _ (e4 _ _ h53)⟩⟩
      subst er
      have e5 := e4.trans em
      have u5 := t5.ext e5
      have u7 := t73.ext e5
      have ux := (allT x hx).ext e5
      rw [hB1]
      simp only [E, List.set, w_nm]
      let F (ya yb yc : Option D) : Mn.Env := E (some (.int (kk : Nat))) (some (.ref b)) (some (.ref qe)) x4 (some (.ref q5)) x6 (some x7) (some (.ref q8)) (some x) ya yb yc
      refine seq_to (fun r1 m5 => r1 = F (some (.bl (jx m4 (.ref q5) x7 x))) xb xc ∧ Ext m4 m5) (fun nx hn => ?_) ?_
      · simp [-Bool.exists_bool, F_law_due]
        exact s_law_due (n := 57) u5 u7 ux fun m5 e6 => hn _ _ ⟨rfl, e6⟩
      rintro _ m5 ⟨rfl, e6⟩
      refine seq_to (fun r1 m6 => ∃ h c5 c7 cx, r1 = F (some (.bl (jx m4 (.ref q5) x7 x))) (some (.ref h)) xc ∧ Ext m4 m6 ∧ m6 h = some (.lst [c5, c7, cx]) ∧ Tw m6 (.ref q5) c5 ∧ Tw m6 x7 c7 ∧ Tw m6 x cx) (fun nx hn => ?_) ?_
      · simp [-Bool.exists_bool, F, E, F_law_copy]
        refine s_law_copy (u5.ext e6) fun c5 n1 f1 w1 => ?_
        refine s_law_copy (u7.ext (e6.trans f1)) fun c7 n2 f2 w2 => ?_
        refine s_law_copy (ux.ext ((e6.trans f1).trans f2)) fun cx n3 f3 w3 => ?_
        intro h hh
        have f4 := Ext.new (o := .lst [c5, c7, cx]) hh
        exact hn _ _ ⟨h, c5, c7, cx, rfl, (((e6.trans f1).trans f2).trans f3).trans f4, up_at, w1.ext ((f2.trans f3).trans f4), w2.ext (f3.trans f4), w3.ext f4⟩
      rintro _ m6 ⟨h, c5, c7, cx, rfl, e7, hh, w1, w2, w3⟩
      refine seq_to (fun r1 m7 => r1 = F (some (.bl (jx m4 (.ref q5) x7 x))) (some (.ref h)) (some (.bl (jx m4 (.ref q5) x7 x))) ∧ Ext m6 m7) (fun nx hn => ?_) ?_
      · have a0 : atI [c5, c7, cx] 0 = some c5 := rfl
        have a1 : atI [c5, c7, cx] 1 = some c7 := rfl
        have a2 : atI [c5, c7, cx] 2 = some cx := rfl
        simp [-Bool.exists_bool, F, E, F_holds, x_ref hh, a0, a1, a2]
        refine s_holds_j (n := 54) ?_
        rw [is_non]
        simp [-Bool.exists_bool]
        refine s_are_joined (n := 54) w1.th.1 w2.th.1 w3.th.1 fun m7 e8 => ?_
        have : jx m6 c5 c7 cx = jx m4 (.ref q5) x7 x := by
          unfold jx
          rw [w1.th.2, w2.th.2, w3.th.2, lg_ext u5 e7, lg_ext u7 e7, lg_ext ux e7]
        rw [this]
        exact hn _ _ ⟨rfl, e8⟩
      rintro _ m7 ⟨rfl, e8⟩
      refine seq_to (fun r1 m8 => r1 = F (some (.bl (jx m4 (.ref q5) x7 x))) (some (.ref h)) (some (.bl (jx m4 (.ref q5) x7 x))) ∧ Ext m7 m8) (fun nx hn => ?_) ?_
      · simp [-Bool.exists_bool, F, E]
        rw [ne_bls]
        simp [-Bool.exists_bool]
        intro z hz
        have e9 := Ext.new (o := .lst [.ref q5, x7, x]) hz
        refine ne_three (e9 _ _ (e8 _ _ hh)) up_at ((w1.ext e8).ext e9) ((w2.ext e8).ext e9) ((w3.ext e8).ext e9) ?_
        simp [-Bool.exists_bool]
        exact hn _ _ ⟨rfl, e9⟩
      rintro _ m8 ⟨rfl, e9⟩
      simp [-Bool.exists_bool]
      exact hn3 _ _ ⟨_, _, _, _, rfl, ((em.trans e7).trans e8).trans e9⟩
    clear b1 h5 t7 h8 m1
    rintro _ m1 ⟨y9, ya, yb, yc, rfl, h5⟩
    have t5 : Th m1 (.ref q5) := g5.th h5
    refine seq_eq (E (some (.int (kk : Nat))) (some (.ref b)) (some (.ref qe)) x4 (some (.ref q5)) x6 (some x7) (some (.ref q8)) y9 ya yb yc) m1 (fun nx hn => ?_) ?_
    · simp [-Bool.exists_bool, E, F_holds]
      refine s_holds_j (n := 54) ?_
      rw [is_tup]
      simp [-Bool.exists_bool]
      rw [ne_bls]
      simp [-Bool.exists_bool, F_holds]
      refine s_holds_j3 (n := 54) ?_
      rw [ne_bls]
      simp [-Bool.exists_bool]
      exact hn
    refine seq_to (fun r1 m2 => r1 = E (some (.int (kk : Nat))) (some (.ref b)) (some (.ref qe)) x4 (some (.ref q5)) x6 (some x7) (some (.ref q8)) y9 ya yb yc) (fun nx hn => ?_) ?_
    · simp [-Bool.exists_bool, E, F_holds]
      refine s_holds_j (n := 54) ?_
      rw [is_non]
      simp [-Bool.exists_bool]
      refine s_are_joined (n := 54) t5 t5 t5 fun m2 e2 => ?_
      rw [jx_self g5 s5 h5, ne_bls]
      simp [-Bool.exists_bool]
      exact hn _ _ rfl
    rintro _ m2 rfl
    simp [-Bool.exists_bool]
    exact hn2 _ _ ⟨_, _, _, _, _, _, _, _, _, _, _, _, rfl⟩
  · rintro r1 m1 ⟨x1, x2, x3, x4, x5, x6, x7, x8, x9, xa, xb, xc, rfl⟩
    simp [-Bool.exists_bool, E]
end Mn.K55
end

open PySem PySem.W PySem.Calls PyProof.Rows in
set_option maxRecDepth 100000 in
set_option maxHeartbeats 0 in
theorem PySem.Challenge.cw_warnloop_k55_joined_claims_holds : PySem.Challenge.rw_warnloop_k55_joined_claims.Holds := by
  w_on; o_law
  refine HandSHeadRun.head_any (q := view Mn.K55.R.prog [94])
    (H := Mn.K55.hk) (ob := Mn.K55.ob) (M := 30000) (kwd := [])
    (loose := Mn.K55.loose) (d := HandSHeadRun.topDef Mn.K55.R.prog 94)
    Mn.K55.ob_eq (by kernel_rfl) (fun s => by kernel_rfl)
    Mn.K55.run (by kernel_rfl) (by kernel_rfl) (by kernel_rfl) (by rfl)
    (by first | assumption | decide +kernel) (by decide +kernel)
    ⟨rfl, rfl, rfl, rfl, rfl, by decide +kernel⟩ ?hw ?hc
  case hw => w_witness2
  case hc => exact Mn.end_of Mn.K55.pk 60 6 Mn.K55.e_law rfl (by kernel_rfl)
              ⟨rfl, by decide, by decide⟩ (by simp [Mn.K55.pk]) rfl (by kernel_rfl) rfl (by kernel_rfl)
              Mn.K55.pk_ok Mn.K55.bnd Mn.K55.law_ok