import PyProof.Rows.All
import Wide.All
import OpenK.AllK
import Wide.FinOn
import KE.KStateDown
import Lean
import HandS.Head0
import HandS.Head1
import HandS.Head2
import HandS.HeadEnd
import HandS.Base
import HandS.ForMost
import HandS.HeadHook1
import HandS.ExcInit
import HandS.Deep
import HandS.IsInst
import HandS.TupAny
import HandS.FStr
import HandS.RaiseMore
import HandS.ExcOwn
import KE.KEqNest
import PyProof.NeKinds
import HandS.Style
import HandS.Flow
import HandS.Walk
import HandS.Zip
import HandS.CallSlots
import HandS.Defaults
import HandS.Property
import HandS.More
import HandS.HotCalls
import HandS.TryMany
import HandS.ExcField
import HandS.NoneIn
import HandS.Conv
import HandS.WordsExc
import KE.SortData
import PyProof.EnumMake
import KE.GoesMore
import HandS.DictComp
import KE.KDictSum
import KE.KDictList
import HandS.Star
import PyProof.ReprRoads
import PyProof.CallFns
import HandS.HeadHook2
import KE.KEqDict
import HandS.TupLen
import HandS.ListItems
import PyProof.EqKinds
import PyProof.FactsAll.dict_1
import PyProof.DictDisplay
import HandS.Finally
import HandS.ClsMeth
import HandS.ExcIs
import PySem.Challenge.RW_wholemixes_k02_errors
import PyProof.StrLawsRepr
import PyProof.ReprLen
import KE.KCallOwn
import HandS.TupSets
import HandS.Replace
import PyProof.StrOps2
import KE.KDictWalk
import KE.KDictItemsList
import PyProof.AutoSeq1
set_option Elab.async false
set_option linter.all false
set_option maxRecDepth 100000
namespace WM
open PySem
inductive D where
  | non | bl (b : Bool) | int (i : Int) | str (s : Str)
  | tup (ds : List D) | lst (ds : List D) | dct (t : Bool) (kvs : List (D × D)) | ins (c : String) (fs : List (String × D))
  | cell (k : Nat) | scr (ns : List Int)
  /-- an own def, as a value -/
  | fn (x : String)
  /-- an own error, as a value -/
  | er (c : String) (fs : List (String × D))
  deriving Inhabited
inductive Ob where
  | lst (ds : List D) | dct (t : Bool) (kvs : List (D × D)) | ins (c : String) (fs : List (String × D)) | st (g : Nat)
  /-- a dict that stands still from now on and is told as data -/
  | fz (t : Bool) (kvs : List (D × D))
  deriving Inhabited
abbrev Store := List Ob
abbrev Env := List (Option D)
abbrev QN := D → Store → Prop
abbrev QX := String → List (String × D) → Store → Prop
def noX : QX := fun _ _ _ => False
mutual
def D.eqb : D → D → Bool
  | .non, .non => true
  | .bl a, .bl b => a == b
  | .int a, .int b => a == b
  | .str a, .str b => a == b
  | .tup a, .tup b => eqbL a b
  | .lst a, .lst b => eqbL a b
  | .dct t a, .dct u b => t == u && eqbP a b
  | .ins c a, .ins d b => c == d && eqbF a b
  | .cell a, .cell b => a == b
  | .scr a, .scr b => a == b
  | .fn a, .fn b => a == b
  | .er c a, .er d b => c == d && eqbF a b
  | _, _ => false
def eqbL : List D → List D → Bool
  | [], [] => true
  | a :: r, b :: q => D.eqb a b && eqbL r q
  | _, _ => false
def eqbP : List (D × D) → List (D × D) → Bool
  | [], [] => true
  | (a, x) :: r, (b, y) :: q => D.eqb a b && D.eqb x y && eqbP r q
  | _, _ => false
def eqbF : List (String × D) → List (String × D) → Bool
  | [], [] => true
  | (a, x) :: r, (b, y) :: q => a == b && D.eqb x y && eqbF r q
  | _, _ => false
end
mutual
theorem D.eqb_iff : ∀ a b : D, D.eqb a b = true ↔ a = b
  | .non, b => by cases b <;> simp [D.eqb]
  | .bl x, b => by cases b <;> simp [D.eqb]
  | .int x, b => by cases b <;> simp [D.eqb]
  | .str x, b => by cases b <;> simp [D.eqb]
  | .tup x, b => by cases b <;> simp [D.eqb, eqbL_iff x]
  | .lst x, b => by cases b <;> simp [D.eqb, eqbL_iff x]
  | .dct t x, b => by cases b <;> simp [D.eqb, eqbP_iff x]
  | .ins c x, b => by cases b <;> simp [D.eqb, eqbF_iff x]
  | .cell x, b => by cases b <;> simp [D.eqb]
  | .scr x, b => by cases b <;> simp [D.eqb]
  | .fn x, b => by cases b <;> simp [D.eqb]
  | .er c x, b => by cases b <;> simp [D.eqb, eqbF_iff x]
theorem eqbL_iff : ∀ a b : List D, eqbL a b = true ↔ a = b
  | [], b => by cases b <;> simp [eqbL]
  | x :: r, b => by
    cases b with
    | nil => simp [eqbL]
    | cons y q => simp [eqbL, D.eqb_iff x y, eqbL_iff r q]
theorem eqbP_iff : ∀ a b : List (D × D), eqbP a b = true ↔ a = b
  | [], b => by cases b <;> simp [eqbP]
  | (x, u) :: r, b => by
    cases b with
    | nil => simp [eqbP]
    | cons y q => obtain ⟨y, z⟩ := y; simp [eqbP, D.eqb_iff x y, D.eqb_iff u z, eqbP_iff r q]
theorem eqbF_iff : ∀ a b : List (String × D), eqbF a b = true ↔ a = b
  | [], b => by cases b <;> simp [eqbF]
  | (x, u) :: r, b => by
    cases b with
    | nil => simp [eqbF]
    | cons y q => obtain ⟨y, z⟩ := y; simp [eqbF, D.eqb_iff u z, eqbF_iff r q]
end
instance : DecidableEq D := fun a b => decidable_of_iff _ (D.eqb_iff a b)
instance : DecidableEq Ob
  | .lst a, .lst b => decidable_of_iff (a = b) (by simp)
  | .dct t a, .dct u b => decidable_of_iff (t = u ∧ a = b) (by simp)
  | .ins c a, .ins d b => decidable_of_iff (c = d ∧ a = b) (by simp)
  | .st a, .st b => decidable_of_iff (a = b) (by simp)
  | .fz t a, .fz u b => decidable_of_iff (t = u ∧ a = b) (by simp)
  | .lst _, .dct _ _ => isFalse (by simp)
  | .lst _, .ins _ _ => isFalse (by simp)
  | .lst _, .st _ => isFalse (by simp)
  | .lst _, .fz _ _ => isFalse (by simp)
  | .dct _ _, .lst _ => isFalse (by simp)
  | .dct _ _, .ins _ _ => isFalse (by simp)
  | .dct _ _, .st _ => isFalse (by simp)
  | .dct _ _, .fz _ _ => isFalse (by simp)
  | .ins _ _, .lst _ => isFalse (by simp)
  | .ins _ _, .dct _ _ => isFalse (by simp)
  | .ins _ _, .st _ => isFalse (by simp)
  | .ins _ _, .fz _ _ => isFalse (by simp)
  | .st _, .lst _ => isFalse (by simp)
  | .st _, .dct _ _ => isFalse (by simp)
  | .st _, .ins _ _ => isFalse (by simp)
  | .st _, .fz _ _ => isFalse (by simp)
  | .fz _ _, .lst _ => isFalse (by simp)
  | .fz _ _, .dct _ _ => isFalse (by simp)
  | .fz _ _, .ins _ _ => isFalse (by simp)
  | .fz _ _, .st _ => isFalse (by simp)
inductive Bin where | add | sub | mul | fdiv | mod | pow
  deriving Inhabited, DecidableEq
inductive Cm where | eq | ne | lt | le | gt | ge | isN | notN | in_ | nin
  deriving Inhabited, DecidableEq
def on {α : Type} (o : Option α) (f : α → Prop) : Prop := match o with
  | some a => f a
  | none => False
@[simp] theorem on_some {α : Type} (a : α) (f : α → Prop) : on (some a) f = f a := rfl
@[simp] theorem on_none {α : Type} (f : α → Prop) : on none f = False := rfl
def guard {α : Type} (c : Prop) [Decidable c] (a : α) : Option α := if c then some a else none
@[simp] theorem guard_pos {α : Type} {c : Prop} [Decidable c] {a : α} (h : c) : guard c a = some a := if_pos h
theorem guard_some {α : Type} {c : Prop} [Decidable c] {a b : α} : guard c a = some b ↔ c ∧ a = b := by unfold guard; split <;> simp [*]
mutual
def D.refs : D → List Nat
  | .er _ fs => refsF fs
  | .cell k => [k]
  | .tup ds => refsL ds
  | .lst ds => refsL ds
  | .dct _ kvs => refsP kvs
  | .ins _ fs => refsF fs
  | _ => []
def refsL : List D → List Nat
  | [] => []
  | d :: r => d.refs ++ refsL r
def refsP : List (D × D) → List Nat
  | [] => []
  | (a, b) :: r => a.refs ++ (b.refs ++ refsP r)
def refsF : List (String × D) → List Nat
  | [] => []
  | (_, b) :: r => b.refs ++ refsF r
end
def Ob.refs : Ob → List Nat
  | .lst ds => refsL ds
  | .dct _ kvs => refsP kvs
  | .ins _ fs => refsF fs
  | .st _ => []
  | .fz _ kvs => refsP kvs
mutual
def D.ren (g : Nat → Nat) : D → D
  | .cell k => .cell (g k)
  | .tup ds => .tup (renL g ds)
  | .lst ds => .lst (renL g ds)
  | .dct t kvs => .dct t (renP g kvs)
  | .ins c fs => .ins c (renF g fs)
  | .non => .non
  | .bl b => .bl b
  | .int i => .int i
  | .str s => .str s
  | .scr s => .scr s
  | .fn s => .fn s
  | .er c fs => .er c (renF g fs)
def renL (g : Nat → Nat) : List D → List D
  | [] => []
  | d :: r => d.ren g :: renL g r
def renP (g : Nat → Nat) : List (D × D) → List (D × D)
  | [] => []
  | (a, b) :: r => (a.ren g, b.ren g) :: renP g r
def renF (g : Nat → Nat) : List (String × D) → List (String × D)
  | [] => []
  | (a, b) :: r => (a, b.ren g) :: renF g r
end
end WM
namespace WM
open PySem L2
def deref (S : Store) : D → D
  | .cell k => match S[k]? with
    | some (.lst ds) => .lst ds
    | some (.dct t kvs) => .dct t kvs
    | _ => .cell k
  | d => d
def getL (S : Store) (d : D) : Option (List D) := match deref S d with
  | .lst ds => some ds
  | _ => none
def getSq (S : Store) (d : D) : Option (List D) := match deref S d with
  | .lst ds => some ds
  | .tup ds => some ds
  | _ => none
def truth (S : Store) (d : D) : Option Bool := match deref S d with
  | .non => some false
  | .bl b => some b
  | .int i => some (i != 0)
  | .str s => guard (s.length ≤ sizeLine) (s.length != 0)
  | .tup ds => some (!ds.isEmpty)
  | .lst ds => some (!ds.isEmpty)
  | .dct _ kvs => some (!kvs.isEmpty)
  | _ => none
def cutL {α : Type} (xs : List α) (lo hi : Option Int) : List α := (xs.drop (HT.sIx xs.length 0 lo)).take (HT.sIx xs.length xs.length hi - HT.sIx xs.length 0 lo)
def bnd : D → Option (Option Int)
  | .non => some none
  | .int i => some (some i)
  | _ => none
/-- numbers, texts, truth values, None; lists and tuples of these, at most n deep -/
def plain : Nat → D → Bool
  | _, .non => true
  | _, .bl _ => true
  | _, .int _ => true
  | _, .str _ => true
  | n + 1, .tup ds => ds.all (plain n)
  | n + 1, .lst ds => ds.all (plain n)
  | _, _ => false
mutual
def eqv : D → D → Bool
  | .non, .non => true
  | .bl a, .bl b => a == b
  | .bl a, .int b => (if a then 1 else 0) == b
  | .int a, .bl b => a == (if b then 1 else 0)
  | .int a, .int b => a == b
  | .str a, .str b => a == b
  | .tup a, .tup b => eqvL a b
  | .lst a, .lst b => eqvL a b
  | _, _ => false
def eqvL : List D → List D → Bool
  | [], [] => true
  | a :: r, b :: q => eqv a b && eqvL r q
  | _, _ => false
end
def eqF (x y : D) : Option Bool := guard (plain 8 x = true ∧ plain 8 y = true) (eqv x y)
def eqDc (a b : List (D × D)) : Bool := a.length == b.length && a.all fun p => match b.lookup p.1 with
  | some v => eqv p.2 v
  | none => false
def eqTop (x y : D) : Option Bool := match x, y with
  | .dct t a, .dct u b => guard (t = u ∧ (∀ p ∈ a, plain 8 p.2 = true) ∧ ∀ p ∈ b, plain 8 p.2 = true) (eqDc a b)
  | x, y => eqF x y
def inL (x : D) (ds : List D) : Option Bool := guard (plain 8 x = true ∧ ∀ d ∈ ds, plain 8 d = true) (ds.any fun d => eqv d x)
/-- a dict's key -/
def flatK : D → Bool
  | .int _ => true
  | .str _ => true
  | _ => false
def keyOk (t : Bool) (d : D) : Bool := if t then (match d with
  | .tup ds => ds.all flatK
  | _ => false) else flatK d
def dput (kvs : List (D × D)) (k v : D) : List (D × D) := if (kvs.any fun p => decide (p.1 = k)) = true then kvs.map (fun p => if p.1 = k then (p.1, v) else p) else kvs ++ [(k, v)]
def ddrop (kvs : List (D × D)) (k : D) : List (D × D) := kvs.filter fun p => p.1 ≠ k
def intOp (o : Bin) (i j : Int) : Option Int := match o with
  | .add => some (i + j)
  | .sub => some (i - j)
  | .mul => guard ((-(2 ^ 64) < i ∧ i < 2 ^ 64) ∨ (-(2 ^ 64) < j ∧ j < 2 ^ 64)) (i * j)
  | .fdiv => guard (0 < j ∧ j < 1073741824) (i / j)
  | .mod => guard (0 < j) (i % j)
  | .pow => guard (0 ≤ j ∧ j ≤ 1000000 ∧ i.natAbs < 2 ^ 64) (i ^ j.toNat)
def binS : Bin → D → D → Option D
  | .add, .str a, .str b => guard (a.length + b.length ≤ sizeLine) (.str (a ++ b))
  | .add, .tup a, .tup b => guard (a ≠ [] ∧ a.length + b.length ≤ sizeLine) (.tup (a ++ b))
  | .add, .lst a, .lst b => guard (a.length + b.length ≤ sizeLine) (.lst (a ++ b))
  | .mul, .lst a, .int k => guard (-(2 ^ 63) ≤ k ∧ k < 2 ^ 63 ∧ a.length * k.toNat ≤ sizeLine) (.lst (List.replicate k.toNat a).flatten)
  | _, _, _ => none
def binop (o : Bin) (S : Store) (x y : D) : Option D := match deref S x, deref S y with
  | .int i, .int j => (intOp o i j).map .int
  | a, b => binS o a b
def ordS (o : Cm) (a b : Str) : Option Bool := match o with
  | .lt => some (decide (a.cps.toList < b.cps.toList))
  | .gt => some (decide (b.cps.toList < a.cps.toList))
  | .le => some (!decide (b.cps.toList < a.cps.toList))
  | .ge => some (!decide (a.cps.toList < b.cps.toList))
  | _ => none
def ordI (o : Cm) (a b : Int) : Option Bool := match o with
  | .lt => some (decide (a < b))
  | .gt => some (decide (b < a))
  | .le => some (decide (a ≤ b))
  | .ge => some (decide (b ≤ a))
  | _ => none
def ixop (S : Store) (x i : D) : Option D := match deref S x, i with
  | .lst ds, .int k => atI ds k
  | .tup ds, .int k => atI ds k
  | .str s, .int k => if s.length ≤ sizeLine then (atI s.cps.toList k).map fun c => .str ⟨#[c]⟩ else none
  | .dct t kvs, k => if keyOk t k = true then kvs.lookup k else none
  | _, _ => none
def lenop (S : Store) (x : D) : Option Int := match deref S x with
  | .lst ds => some ds.length
  | .tup ds => some ds.length
  | .dct _ kvs => some kvs.length
  | .str s => guard (s.length ≤ sizeLine) s.length
  | _ => none
def isOf (n t : String) : Bool := n == t || (n == "bool" && t == "int")
def strsL : List D → Option (List Str)
  | [] => some []
  | .str i :: r => (strsL r).map (i :: ·)
  | _ => none
def fput (fs : List (String × D)) (f : String) (x : D) : List (String × D) := match fs with
  | [] => [(f, x)]
  | (g, y) :: r => if g = f then (g, x) :: r else (g, y) :: fput r f x
def wipeE (σ : Env) : List Nat → Env
  | [] => σ
  | v :: vs => (wipeE σ vs).set v none
def cellOf : D → Option Nat
  | .cell k => some k
  | _ => none
def enumL (ds : List D) : List D := ds.zipIdx.map fun p => .tup [.int p.2, p.1]
/-- the cell g stands as it stood in S -/
def still (g : Option Nat) (S S' : Store) : Prop := match g with
  | none => True
  | some k => S'[k]? = S[k]?
end WM
namespace WM
open PySem PySem.Spec PyProof.Rows L2
def budget : Nat := 2 ^ 36
theorem ofStr_inj {a b : String} (h : Str.ofString a = Str.ofString b) : a = b := by
  rw [Str.ofString_eq_toList, Str.ofString_eq_toList] at h
  have h1 : a.toList.map Char.toNat = b.toList.map Char.toNat := by simpa using congrArg (fun s : Str => s.cps.toList) h
  have inj : ∀ x y : Char, x.toNat = y.toNat → x = y := fun x y e => by
    apply Char.ext
    exact UInt32.toNat_inj.mp e
  have h2 : a.toList = b.toList := by
    generalize a.toList = l at h1
    generalize b.toList = m at h1
    induction l generalizing m with
    | nil => cases m with
      | nil => rfl
      | cons y q => simp at h1
    | cons x r ih => cases m with
      | nil => simp at h1
      | cons y q =>
        simp only [List.map_cons, List.cons.injEq] at h1
        rw [inj x y h1.1, ih q h1.2]
  exact String.toList_inj.mp h2
@[simp] theorem ofStr_iff {a b : String} : Str.ofString a = Str.ofString b ↔ a = b := ⟨ofStr_inj, fun h => by rw [h]⟩
def kOf : Key → D
  | .inl i => .int i
  | .inr s => .str s
theorem kOf_inj {a b : Key} (h : kOf a = kOf b) : a = b := by
  cases a <;> cases b <;> simp [kOf] at h <;> simp [h]
/-- the dict of an error: none where it has no field -/
def ErD (F : Hp) (d : Option Addr) (ps : List (Str × V)) : Prop := match d with
  | none => ps = []
  | some dx => F dx = some (exd dx ps)
section
variable (K : PySem.W.Frag) (F : Hp) (ρ : List Addr)
mutual
def Rep : V → D → Prop
  | v, .non => v = .non
  | v, .bl b => v = .bl b
  | v, .int i => v = .int i
  | v, .str s => v = .str s
  | v, .cell k => ∃ a, ρ[k]? = some a ∧ v = .ref a
  | v, .tup ds => ∃ a vs, v = .ref a ∧ F a = some (.tup vs) ∧ RepL vs ds
  | v, .lst ds => ∃ a vs, v = .ref a ∧ F a = some (.lst vs) ∧ RepL vs ds
  | v, .dct false kvs => ∃ a ps, v = .ref a ∧ Rd F a (.dK ps) ∧ RepK ps kvs
  | v, .dct true kvs => ∃ a ps, v = .ref a ∧ Rd F a (.dT ps) ∧ RepT ps kvs
  | v, .ins c fs => ∃ a dx ps, v = .ref a ∧ F a = some (.ins (He.ga K c) dx ps) ∧ F dx = some (.own a) ∧ RepF ps fs
  | v, .scr ns => ∃ a, v = .ref a ∧ SqL K F a (ns.map .int)
  | v, .fn x => v = .ref (He.ga K x)
  | v, .er c fs => ∃ a d ps, v = .ref a ∧ F a = some (exo a (He.ga K c) d) ∧ ErD F d ps ∧ RepF ps fs
def RepL : List V → List D → Prop
  | [], [] => True
  | v :: vs, d :: ds => Rep v d ∧ RepL vs ds
  | _, _ => False
def RepK : List (Key × V) → List (D × D) → Prop
  | [], [] => True
  | (k, v) :: r, (a, x) :: q => kOf k = a ∧ Rep v x ∧ RepK r q
  | _, _ => False
def RepT : List (List Key × V) → List (D × D) → Prop
  | [], [] => True
  | (k, v) :: r, (a, x) :: q => D.tup (k.map kOf) = a ∧ Rep v x ∧ RepT r q
  | _, _ => False
def RepF : List (Str × V) → List (String × D) → Prop
  | [], [] => True
  | (k, v) :: r, (a, x) :: q => k = Str.ofString a ∧ Rep v x ∧ RepF r q
  | _, _ => False
end
end
section
variable {K : PySem.W.Frag} {F F' : Hp} {ρ ρ' : List Addr}
/-- what may be locked: a dict that is walked -/
def lockO : HO → Bool
  | .dK _ => true
  | .dT _ => true
  | _ => false
def ExtF (F F' : Hp) : Prop := ∀ a o, F a = some o → F' a = some o ∨ (lockO o = true ∧ ∃ ob, F' a = some (.frz ob o))
theorem ExtF.ex (e : ExtF F F') {a : Addr} {o : HO} (h : F a = some o) (n : lockO o = false := by rfl) : F' a = some o := by
  rcases e a o h with h | ⟨z, _⟩
  · exact h
  · rw [n] at z; cases z
theorem ExtF.rd (e : ExtF F F') {a : Addr} {o : HO} (h : Rd F a o) : Rd F' a o := by
  rcases h with h | ⟨ob, h⟩
  · rcases e a o h with h | ⟨_, ob, h⟩
    · exact .inl h
    · exact .inr ⟨ob, h⟩
  · exact .inr ⟨ob, e.ex h⟩
theorem ErD.mono (e : ExtF F F') {d : Option Addr} {ps : List (Str × V)} (h : ErD F d ps) : ErD F' d ps := by
  cases d with
  | none => exact h
  | some dx => exact e.ex h
structure Ext (F : Hp) (ρ : List Addr) (F' : Hp) (ρ' : List Addr) : Prop where
  f : ExtF F F'
  c : ∀ (k : Nat) (a : Addr), ρ[k]? = some a → ρ'[k]? = some a
theorem SqL.keepF {a : Addr} {xs : List V} (e : ExtF F F') (h : SqL K F a xs) : SqL K F' a xs := by
  rcases h with (h | ⟨ob, h⟩) | h
  · exact .inl (.inl (e.ex h))
  · exact .inl (.inr ⟨ob, e.ex h⟩)
  · exact .inr h
theorem Ext.refl : Ext F ρ F ρ := ⟨fun _ _ h => .inl h, fun _ _ h => h⟩
theorem Ext.trans {F1 F2 F3 : Hp} {r1 r2 r3 : List Addr} (a : Ext F1 r1 F2 r2) (b : Ext F2 r2 F3 r3) : Ext F1 r1 F3 r3 := ⟨fun x o h => by
  rcases a.f x o h with q | ⟨l, ob, q⟩
  · exact b.f x o q
  · exact .inr ⟨l, ob, b.f.ex q⟩, fun k x h => b.c k x (a.c k x h)⟩
mutual
theorem Rep.mono (e : Ext F ρ F' ρ') : ∀ {d : D} {v : V}, Rep K F ρ v d → Rep K F' ρ' v d
  | .non, _, h => h
  | .bl _, _, h => h
  | .int _, _, h => h
  | .str _, _, h => h
  | .cell k, _, ⟨a, h1, h2⟩ => ⟨a, e.c _ _ h1, h2⟩
  | .tup ds, _, ⟨a, vs, h1, h2, h3⟩ => ⟨a, vs, h1, e.f.ex h2, RepL.mono e h3⟩
  | .lst ds, _, ⟨a, vs, h1, h2, h3⟩ => ⟨a, vs, h1, e.f.ex h2, RepL.mono e h3⟩
  | .dct false kvs, _, ⟨a, ps, h1, h2, h3⟩ => ⟨a, ps, h1, e.f.rd h2, RepK.mono e h3⟩
  | .dct true kvs, _, ⟨a, ps, h1, h2, h3⟩ => ⟨a, ps, h1, e.f.rd h2, RepT.mono e h3⟩
  | .ins c fs, _, ⟨a, dx, ps, h1, h2, h3, h4⟩ => ⟨a, dx, ps, h1, e.f.ex h2, e.f.ex h3, RepF.mono e h4⟩
  | .scr ns, _, ⟨a, h1, h2⟩ => ⟨a, h1, SqL.keepF e.f h2⟩
  | .fn _, _, h => h
  | .er c fs, _, ⟨a, d, ps, h1, h2, h3, h4⟩ => ⟨a, d, ps, h1, e.f.ex h2, h3.mono e.f, RepF.mono e h4⟩
theorem RepL.mono (e : Ext F ρ F' ρ') : ∀ {ds : List D} {vs : List V}, RepL K F ρ vs ds → RepL K F' ρ' vs ds
  | [], [], h => h
  | d :: ds, v :: vs, ⟨h1, h2⟩ => ⟨Rep.mono e h1, RepL.mono e h2⟩
  | [], _ :: _, h => h.elim
  | _ :: _, [], h => h.elim
theorem RepK.mono (e : Ext F ρ F' ρ') : ∀ {ds : List (D × D)} {vs : List (Key × V)}, RepK K F ρ vs ds → RepK K F' ρ' vs ds
  | [], [], h => h
  | (_, _) :: ds, (_, _) :: vs, ⟨h0, h1, h2⟩ => ⟨h0, Rep.mono e h1, RepK.mono e h2⟩
  | [], _ :: _, h => h.elim
  | _ :: _, [], h => h.elim
theorem RepT.mono (e : Ext F ρ F' ρ') : ∀ {ds : List (D × D)} {vs : List (List Key × V)}, RepT K F ρ vs ds → RepT K F' ρ' vs ds
  | [], [], h => h
  | (_, _) :: ds, (_, _) :: vs, ⟨h0, h1, h2⟩ => ⟨h0, Rep.mono e h1, RepT.mono e h2⟩
  | [], _ :: _, h => h.elim
  | _ :: _, [], h => h.elim
theorem RepF.mono (e : Ext F ρ F' ρ') : ∀ {ds : List (String × D)} {vs : List (Str × V)}, RepF K F ρ vs ds → RepF K F' ρ' vs ds
  | [], [], h => h
  | (_, _) :: ds, (_, _) :: vs, ⟨h0, h1, h2⟩ => ⟨h0, Rep.mono e h1, RepF.mono e h2⟩
  | [], _ :: _, h => h.elim
  | _ :: _, [], h => h.elim
end
mutual
theorem Rep.cells (g : Nat → Nat) : ∀ {d : D} {v : V}, (∀ k ∈ d.refs, ∀ a, ρ[k]? = some a → ρ'[g k]? = some a) → Rep K F ρ v d → Rep K F ρ' v (d.ren g)
  | .non, _, _, h => h
  | .bl _, _, _, h => h
  | .int _, _, _, h => h
  | .str _, _, _, h => h
  | .cell k, _, e, ⟨a, h1, h2⟩ => ⟨a, e k (by simp [D.refs]) a h1, h2⟩
  | .tup ds, _, e, ⟨a, vs, h1, h2, h3⟩ => ⟨a, vs, h1, h2, RepL.cells g (fun k hk => e k (by simpa [D.refs] using hk)) h3⟩
  | .lst ds, _, e, ⟨a, vs, h1, h2, h3⟩ => ⟨a, vs, h1, h2, RepL.cells g (fun k hk => e k (by simpa [D.refs] using hk)) h3⟩
  | .dct false kvs, _, e, ⟨a, ps, h1, h2, h3⟩ => ⟨a, ps, h1, h2, RepK.cells g (fun k hk => e k (by simpa [D.refs] using hk)) h3⟩
  | .dct true kvs, _, e, ⟨a, ps, h1, h2, h3⟩ => ⟨a, ps, h1, h2, RepT.cells g (fun k hk => e k (by simpa [D.refs] using hk)) h3⟩
  | .ins c fs, _, e, ⟨a, dx, ps, h1, h2, h3, h4⟩ => ⟨a, dx, ps, h1, h2, h3, RepF.cells g (fun k hk => e k (by simpa [D.refs] using hk)) h4⟩
  | .scr ns, _, _, h => h
  | .fn _, _, _, h => h
  | .er c fs, _, e, ⟨a, d, ps, h1, h2, h3, h4⟩ => ⟨a, d, ps, h1, h2, h3, RepF.cells g (fun k hk => e k (by simpa [D.refs] using hk)) h4⟩
theorem RepL.cells (g : Nat → Nat) : ∀ {ds : List D} {vs : List V}, (∀ k ∈ refsL ds, ∀ a, ρ[k]? = some a → ρ'[g k]? = some a) → RepL K F ρ vs ds → RepL K F ρ' vs (renL g ds)
  | [], [], _, h => h
  | d :: ds, v :: vs, e, ⟨h1, h2⟩ => ⟨Rep.cells g (fun k hk => e k (by simp [refsL, hk])) h1, RepL.cells g (fun k hk => e k (by simp [refsL, hk])) h2⟩
  | [], _ :: _, _, h => h.elim
  | _ :: _, [], _, h => h.elim
theorem RepK.cells (g : Nat → Nat) : ∀ {ds : List (D × D)} {vs : List (Key × V)}, (∀ k ∈ refsP ds, ∀ a, ρ[k]? = some a → ρ'[g k]? = some a) → RepK K F ρ vs ds → RepK K F ρ' vs (renP g ds)
  | [], [], _, h => h
  | (a, x) :: ds, (k, v) :: vs, e, ⟨h0, h1, h2⟩ => ⟨by rw [← h0]; cases k <;> rfl, Rep.cells g (fun k hk => e k (by simp [refsP, hk])) h1, RepK.cells g (fun k hk => e k (by simp [refsP, hk])) h2⟩
  | [], _ :: _, _, h => h.elim
  | _ :: _, [], _, h => h.elim
theorem RepT.cells (g : Nat → Nat) : ∀ {ds : List (D × D)} {vs : List (List Key × V)}, (∀ k ∈ refsP ds, ∀ a, ρ[k]? = some a → ρ'[g k]? = some a) → RepT K F ρ vs ds → RepT K F ρ' vs (renP g ds)
  | [], [], _, h => h
  | (a, x) :: ds, (k, v) :: vs, e, ⟨h0, h1, h2⟩ => ⟨by
      rw [← h0]
      show D.tup (k.map kOf) = D.tup (renL g (k.map kOf))
      congr 1
      induction k with
      | nil => rfl
      | cons b r ih =>
        rw [List.map_cons]
        show _ = D.ren g (kOf b) :: renL g (r.map kOf)
        have : ∀ l : List Key, l.map kOf = renL g (l.map kOf) := fun l => by
          induction l with
          | nil => rfl
          | cons c q ih2 =>
            rw [List.map_cons]
            show _ = D.ren g (kOf c) :: renL g (q.map kOf)
            rw [← ih2]
            cases c <;> rfl
        rw [← this r]
        cases b <;> rfl, Rep.cells g (fun k hk => e k (by simp [refsP, hk])) h1, RepT.cells g (fun k hk => e k (by simp [refsP, hk])) h2⟩
  | [], _ :: _, _, h => h.elim
  | _ :: _, [], _, h => h.elim
theorem RepF.cells (g : Nat → Nat) : ∀ {ds : List (String × D)} {vs : List (Str × V)}, (∀ k ∈ refsF ds, ∀ a, ρ[k]? = some a → ρ'[g k]? = some a) → RepF K F ρ vs ds → RepF K F ρ' vs (renF g ds)
  | [], [], _, h => h
  | (a, x) :: ds, (k, v) :: vs, e, ⟨h0, h1, h2⟩ => ⟨h0, Rep.cells g (fun k hk => e k (by simp [refsF, hk])) h1, RepF.cells g (fun k hk => e k (by simp [refsF, hk])) h2⟩
  | [], _ :: _, _, h => h.elim
  | _ :: _, [], _, h => h.elim
end
theorem RepL.length : ∀ {ds : List D} {vs : List V}, RepL K F ρ vs ds → vs.length = ds.length
  | [], [], _ => rfl
  | _ :: _, _ :: _, ⟨_, h⟩ => by simp [RepL.length h]
  | [], _ :: _, h => h.elim
  | _ :: _, [], h => h.elim
theorem RepL.get : ∀ {ds : List D} {vs : List V} {i : Nat} {d : D}, RepL K F ρ vs ds → ds[i]? = some d → ∃ v, vs[i]? = some v ∧ Rep K F ρ v d
  | _ :: _, v :: _, 0, _, ⟨h, _⟩, e => by simp at e; subst e; exact ⟨v, by simp, h⟩
  | _ :: _, _ :: _, i + 1, d, ⟨_, h⟩, e => by
    obtain ⟨v, h1, h2⟩ := RepL.get (i := i) (d := d) h (by simpa using e)
    exact ⟨v, by simpa using h1, h2⟩
  | [], [], _, _, _, e => by simp at e
  | [], _ :: _, _, _, h, _ => h.elim
  | _ :: _, [], _, _, h, _ => h.elim
theorem RepL.getV : ∀ {ds : List D} {vs : List V} {i : Nat} {v : V}, RepL K F ρ vs ds → vs[i]? = some v → ∃ d, ds[i]? = some d ∧ Rep K F ρ v d
  | d :: _, _ :: _, 0, _, ⟨h, _⟩, e => by simp at e; subst e; exact ⟨d, by simp, h⟩
  | _ :: _, _ :: _, i + 1, d, ⟨_, h⟩, e => by
    obtain ⟨v, h1, h2⟩ := RepL.getV (i := i) (v := d) h (by simpa using e)
    exact ⟨v, by simpa using h1, h2⟩
  | [], [], _, _, _, e => by simp at e
  | [], _ :: _, _, _, h, _ => h.elim
  | _ :: _, [], _, _, h, _ => h.elim
theorem RepL.append : ∀ {ds es : List D} {vs us : List V}, RepL K F ρ vs ds → RepL K F ρ us es → RepL K F ρ (vs ++ us) (ds ++ es)
  | [], _, [], _, _, h => h
  | _ :: _, _, _ :: _, _, ⟨h1, h2⟩, h => ⟨h1, RepL.append h2 h⟩
  | [], _, _ :: _, _, h, _ => h.elim
  | _ :: _, _, [], _, h, _ => h.elim
theorem RepL.take (n : Nat) : ∀ {ds : List D} {vs : List V}, RepL K F ρ vs ds → RepL K F ρ (vs.take n) (ds.take n) := by
  induction n with
  | zero => intro ds vs _; simp [RepL]
  | succ n ih =>
    intro ds vs h
    cases ds <;> cases vs <;> simp [RepL] at h ⊢
    exact ⟨h.1, ih h.2⟩
theorem RepL.drop (n : Nat) : ∀ {ds : List D} {vs : List V}, RepL K F ρ vs ds → RepL K F ρ (vs.drop n) (ds.drop n) := by
  induction n with
  | zero => intro ds vs h; simpa using h
  | succ n ih =>
    intro ds vs h
    cases ds <;> cases vs <;> simp [RepL] at h ⊢
    exact ih h.2
theorem RepL.set {v : V} {d : D} (r : Rep K F ρ v d) (i : Nat) : ∀ {ds : List D} {vs : List V}, RepL K F ρ vs ds → RepL K F ρ (vs.set i v) (ds.set i d) := by
  induction i with
  | zero =>
    intro ds vs h
    cases ds <;> cases vs <;> simp [RepL] at h ⊢
    exact ⟨r, h.2⟩
  | succ n ih =>
    intro ds vs h
    cases ds <;> cases vs <;> simp [RepL] at h ⊢
    exact ⟨h.1, ih h.2⟩
theorem RepL.reverse : ∀ {ds : List D} {vs : List V}, RepL K F ρ vs ds → RepL K F ρ vs.reverse ds.reverse
  | [], [], _ => True.intro
  | _ :: _, _ :: _, ⟨h1, h2⟩ => by
    rw [List.reverse_cons, List.reverse_cons]
    exact (RepL.reverse h2).append ⟨h1, True.intro⟩
  | [], _ :: _, h => h.elim
  | _ :: _, [], h => h.elim
theorem RepL.cut {ds : List D} {vs : List V} (h : RepL K F ρ vs ds) (lo hi : Option Int) : RepL K F ρ (cutV vs lo hi) (cutL ds lo hi) := by
  unfold cutV cutL
  rw [h.length]
  exact (h.drop _).take _
def Le (F H : Hp) : Prop := ∀ a o, F a = some o → H a = some o
theorem Le.rd {F H : Hp} (l : Le F H) {a : Addr} {o : HO} (h : Rd F a o) : Rd H a o := by
  rcases h with h | ⟨ob, h⟩
  · exact .inl (l _ _ h)
  · exact .inr ⟨ob, l _ _ h⟩
theorem Le.ex {F H : Hp} (l : Le F H) {a : Addr} {o : HO} (h : F a = some o) (_ : lockO o = false) : H a = some o := l _ _ h
theorem Le.ne {F H : Hp} (l : Le F H) {a : Addr} (h : H a = none) : F a = none := by
  cases e : F a with
  | none => rfl
  | some o => have := l a o e; rw [h] at this; cases this
/-- a body's base: the heap at its entry, what of it stands still, what it was handed to change -/
structure Bs where
  H0 : Hp
  F0 : Hp
  im : Addr → Prop
def RepO (K : PySem.W.Frag) (B : Bs) (F : Hp) (ρ : List Addr) (H : Hp) (a : Addr) : Ob → Prop
  | .lst ds => ∃ vs, H a = some (.lst vs) ∧ RepL K F ρ vs ds
  | .dct false kvs => ∃ ps, H a = some (.dK ps) ∧ RepK K F ρ ps kvs
  | .dct true kvs => ∃ ps, H a = some (.dT ps) ∧ RepT K F ρ ps kvs
  | .ins c fs => ∃ dx ps, H a = some (.ins (He.ga K c) dx ps) ∧ F dx = some (.own a) ∧ RepF K F ρ ps fs
  | .fz false kvs => ∃ ps, Rd F a (.dK ps) ∧ RepK K F ρ ps kvs
  | .fz true kvs => ∃ ps, Rd F a (.dT ps) ∧ RepT K F ρ ps kvs
  | .st g => ∃ (a0 a1 : Addr) (ns ms : List Int) (n : Int), H a = some (.lst [.ref a0, .ref a1, .int n]) ∧ H a0 = some (.lst (ns.map .int)) ∧ F a1 = some (.lst (ms.map .int)) ∧
      ms ≠ [] ∧ ms.length ≤ 100 ∧ 0 ≤ n ∧ n + g ≤ budget ∧ F a0 = none ∧ a0 ∉ ρ ∧ (B.im a0 ∨ B.H0 a0 = none)
structure Rel (K : PySem.W.Frag) (B : Bs) (S : Store) (F : Hp) (ρ : List Addr) (H : Hp) : Prop where
  le : Le F H
  len : ρ.length = S.length
  nd : ρ.Nodup
  out : ∀ (k : Nat) (a : Addr), ρ[k]? = some a → F a = none ∨ ∃ t kvs, S[k]? = some (.fz t kvs)
  cell : ∀ (k : Nat) (a : Addr) (o : Ob), ρ[k]? = some a → S[k]? = some o → RepO K B F ρ H a o
  fr : ∀ a o, B.H0 a = some o → ¬ B.im a → H a = some o ∨ (B.F0 a ≠ none ∧ lockO o = true ∧ ∃ ob, H a = some (.frz ob o))
  new : ∀ a o, F a = some o → B.F0 a ≠ none ∨ B.H0 a = none ∨ (∃ xs, o = .tup xs) ∨ B.im a
  cnew : ∀ a ∈ ρ, B.im a ∨ B.H0 a = none
  gr : ∀ a, B.H0 a ≠ none → H a ≠ none
section
variable {B : Bs} {S : Store} {H : Hp} {a p : Addr} {o : Ob} {ho : HO}
theorem RepO.at (l : Le F H) (h : RepO K B F ρ H a o) : ∃ u, H a = some u := by
  cases o with
  | fz t kvs => cases t <;> (obtain ⟨ps, e, _⟩ := h; rcases l.rd e with e | ⟨_, e⟩ <;> exact ⟨_, e⟩)
  | lst ds => obtain ⟨vs, e, _⟩ := h; exact ⟨_, e⟩
  | dct t kvs => cases t <;> (obtain ⟨vs, e, _⟩ := h; exact ⟨_, e⟩)
  | ins c fs => obtain ⟨_, _, e, _⟩ := h; exact ⟨_, e⟩
  | st g => obtain ⟨_, _, _, _, _, e, _⟩ := h; exact ⟨_, e⟩
theorem Rel.at_cell (r : Rel K B S F ρ H) {k : Nat} (e : ρ[k]? = some a) : ∃ o, S[k]? = some o ∧ RepO K B F ρ H a o := by
  have hk : k < S.length := by rw [← r.len]; exact (List.getElem?_eq_some_iff.mp e).1
  exact ⟨S[k], by simp [hk], r.cell k a _ e (by simp [hk])⟩
theorem Rel.cell_ex (r : Rel K B S F ρ H) (h : a ∈ ρ) : ∃ u, H a = some u := by
  obtain ⟨k, hk, e⟩ := List.mem_iff_getElem.mp h
  obtain ⟨o, _, q⟩ := r.at_cell (k := k) (a := a) (by simp [hk, e])
  exact q.at r.le
theorem Rel.out' (r : Rel K B S F ρ H) {k : Nat} (hk : ρ[k]? = some a) (h : ∀ t kvs, S[k]? ≠ some (.fz t kvs)) : F a = none := by
  rcases r.out k a hk with z | ⟨t, kvs, z⟩
  · exact z
  · exact absurd z (h t kvs)
theorem Rel.fresh (r : Rel K B S F ρ H) (h : H p = none) : F p = none ∧ p ∉ ρ ∧ B.H0 p = none := by
  refine ⟨r.le.ne h, fun hm => ?_, ?_⟩
  · obtain ⟨u, e⟩ := r.cell_ex hm
    rw [h] at e; cases e
  · cases e : B.H0 p with
    | none => rfl
    | some o => exact absurd h (r.gr p (by rw [e]; simp))
/-- what a cell is told by stays true where its own places stay and F, ρ grow -/
theorem RepO.mono {F' : Hp} {ρ' : List Addr} {H' : Hp} (e : Ext F ρ F' ρ') (hH : ∀ b u, H b = some u → (b = a ∨ F b = none ∧ b ∉ ρ) → H' b = some u) (h : RepO K B F ρ H a o)
    (hn : ∀ b u, H b = some u → F b = none → b ∉ ρ → F' b = none ∧ b ∉ ρ') : RepO K B F' ρ' H' a o := by
  cases o with
  | lst ds => obtain ⟨vs, q, z⟩ := h; exact ⟨vs, hH _ _ q (.inl rfl), z.mono e⟩
  | dct t kvs => cases t with
    | false => obtain ⟨vs, q, z⟩ := h; exact ⟨vs, hH _ _ q (.inl rfl), RepK.mono e z⟩
    | true => obtain ⟨vs, q, z⟩ := h; exact ⟨vs, hH _ _ q (.inl rfl), RepT.mono e z⟩
  | fz t kvs => cases t with
    | false => obtain ⟨vs, q, z⟩ := h; exact ⟨vs, e.f.rd q, RepK.mono e z⟩
    | true => obtain ⟨vs, q, z⟩ := h; exact ⟨vs, e.f.rd q, RepT.mono e z⟩
  | ins c fs => obtain ⟨dx, ps, q, q2, z⟩ := h; exact ⟨dx, ps, hH _ _ q (.inl rfl), e.f.ex q2, RepF.mono e z⟩
  | st g =>
    obtain ⟨a0, a1, ns, ms, n, q1, q2, q3, h1, h2, h3, h4, h5, h6, h7⟩ := h
    have z := hn a0 _ q2 h5 h6
    exact ⟨a0, a1, ns, ms, n, hH _ _ q1 (.inl rfl), hH _ _ q2 (.inr ⟨h5, h6⟩), e.f.ex q3, h1, h2, h3, h4, z.1, z.2, h7⟩
theorem extF_upd (h : F p = none) : ExtF F (upd F p ho) := fun b u e => .inl (by rw [upd_ne (ne_of_none e h)]; exact e)
/-- a new object that stands still from now on -/
theorem Rel.alloc (r : Rel K B S F ρ H) (h : H p = none) : Rel K B S (upd F p ho) ρ (upd H p ho) ∧ Ext F ρ (upd F p ho) ρ := by
  obtain ⟨h1, h2, h3⟩ := r.fresh h
  have e : Ext F ρ (upd F p ho) ρ := ⟨extF_upd h1, fun _ _ q => q⟩
  refine ⟨⟨fun b u q => ?_, r.len, r.nd, fun k b hb => ?_, fun k b u q1 q2 => ?_, fun b u q1 q2 => ?_, fun b u q => ?_, r.cnew, fun b q => ?_⟩, e⟩
  · by_cases hb : b = p
    · subst hb; rw [upd_same] at q ⊢; exact q
    · rw [upd_ne hb] at q ⊢; exact r.le b u q
  · rw [upd_ne (fun z => h2 (by rw [← z]; exact List.mem_of_getElem? hb))]; exact r.out k b hb
  · refine (r.cell k b u q1 q2).mono e (fun c w q _ => ?_) fun c w q q3 q4 => ⟨?_, q4⟩
    · rw [upd_ne (ne_of_none q h)]; exact q
    · rw [upd_ne (ne_of_none q h)]; exact q3
  · rw [upd_ne (fun z => by rw [z, h3] at q1; cases q1)]; exact r.fr b u q1 q2
  · by_cases hb : b = p
    · exact .inr (.inl (hb ▸ h3))
    · rw [upd_ne hb] at q; exact r.new b u q
  · by_cases hb : b = p
    · subst hb; rw [upd_same]; simp
    · rw [upd_ne hb]; exact r.gr b q
/-- a new object that may change -/
theorem Rel.allocC (r : Rel K B S F ρ H) (h : H p = none) (q : RepO K B F (ρ ++ [p]) (upd H p ho) p o) : Rel K B (S ++ [o]) F (ρ ++ [p]) (upd H p ho) ∧ Ext F ρ F (ρ ++ [p]) := by
  obtain ⟨h1, h2, h3⟩ := r.fresh h
  have e : Ext F ρ F (ρ ++ [p]) := ⟨fun _ _ z => .inl z, fun k a z => by
    rw [List.getElem?_append_left (List.getElem?_eq_some_iff.mp z).1]; exact z⟩
  refine ⟨⟨fun b u z => ?_, by simp [r.len], ?_, fun k b hb => ?_, fun k b u q1 q2 => ?_, fun b u q1 q2 => ?_, r.new, fun b hb => ?_, fun b z => ?_⟩, e⟩
  · rw [upd_ne (ne_of_none z h1)]; exact r.le b u z
  · rw [List.nodup_append]
    exact ⟨r.nd, by simp, fun x hx y hy z => h2 (by simp at hy; rw [← hy, ← z]; exact hx)⟩
  · by_cases hk : k < ρ.length
    · rw [List.getElem?_append_left hk] at hb
      rw [List.getElem?_append_left (by rw [← r.len]; exact hk)]
      exact r.out k b hb
    · have hk2 : k = ρ.length := by
        have := (List.getElem?_eq_some_iff.mp hb).1
        simp at this; omega
      subst hk2
      simp at hb
      rw [← hb]; exact .inl h1
  · by_cases hk : k < ρ.length
    · rw [List.getElem?_append_left hk] at q1
      rw [List.getElem?_append_left (by rw [← r.len]; exact hk)] at q2
      refine (r.cell k b u q1 q2).mono e (fun c w z _ => ?_) fun c w z q3 q4 => ⟨q3, fun hm => ?_⟩
      · rw [upd_ne (ne_of_none z h)]; exact z
      · rcases List.mem_append.mp hm with hm | hm
        · exact q4 hm
        · simp at hm; rw [hm, h] at z; cases z
    · have hk2 : k = ρ.length := by
        have := (List.getElem?_eq_some_iff.mp q1).1
        simp at this; omega
      subst hk2
      simp at q1
      rw [r.len] at q2
      simp at q2
      subst q1 q2
      exact q
  · rw [upd_ne (fun z => by rw [z, h3] at q1; cases q1)]; exact r.fr b u q1 q2
  · rcases List.mem_append.mp hb with hb | hb
    · exact r.cnew b hb
    · simp at hb; rw [hb]; exact .inr h3
  · by_cases hb : b = p
    · subst hb; rw [upd_same]; simp
    · rw [upd_ne hb]; exact r.gr b z
theorem Rel.nfH (r : Rel K B S F ρ H) {k : Nat} (hk : ρ[k]? = some a) {u : HO} (hu : H a = some u) (n : ∀ ps, u ≠ .dK ps) (n2 : ∀ ps, u ≠ .dT ps) (n3 : ∀ ob o, u ≠ .frz ob o) : ∀ t kvs, S[k]? ≠ some (.fz t kvs) := fun t kvs z => by
  have base := r.cell k a _ hk z
  cases t with
  | false =>
    obtain ⟨ps, z1, _⟩ := base
    rcases r.le.rd z1 with y | ⟨ob, y⟩
    · rw [hu] at y; cases y; exact n _ rfl
    · rw [hu] at y; cases y; exact n3 _ _ rfl
  | true =>
    obtain ⟨ps, z1, _⟩ := base
    rcases r.le.rd z1 with y | ⟨ob, y⟩
    · rw [hu] at y; cases y; exact n2 _ rfl
    · rw [hu] at y; cases y; exact n3 _ _ rfl
/-- a cell is written -/
theorem Rel.write (r : Rel K B S F ρ H) {k : Nat} (hk : ρ[k]? = some a) (nf : ∀ t kvs, S[k]? ≠ some (.fz t kvs)) (q : RepO K B F ρ (upd H a ho) a o) : Rel K B (S.set k o) F ρ (upd H a ho) := by
  have ha : a ∈ ρ := List.mem_of_getElem? hk
  have hF : F a = none := r.out' hk nf
  refine ⟨fun b u z => ?_, by simp [r.len], r.nd, fun j b hb => ?_, fun j b u q1 q2 => ?_, fun b u q1 q2 => ?_, r.new, r.cnew, fun b z => ?_⟩
  · rw [upd_ne (ne_of_none z hF)]; exact r.le b u z
  · by_cases hj : j = k
    · subst hj
      rw [hk] at hb; cases hb; exact .inl hF
    · rw [List.getElem?_set_ne (Ne.symm hj)]; exact r.out j b hb
  · by_cases hj : j = k
    · subst hj
      rw [hk] at q1; cases q1
      have hl : j < S.length := by rw [← r.len]; exact (List.getElem?_eq_some_iff.mp hk).1
      rw [List.getElem?_set_self hl] at q2
      cases q2
      exact q
    · rw [List.getElem?_set_ne (Ne.symm hj)] at q2
      have hb : b ≠ a := fun z => by
        subst z
        have h1 := List.getElem?_eq_some_iff.mp q1
        have h2 := List.getElem?_eq_some_iff.mp hk
        exact hj ((List.getElem_inj r.nd).mp (h1.2.trans h2.2.symm))
      refine (r.cell j b u q1 q2).mono Ext.refl (fun c w z hc => ?_) fun c w z q3 q4 => ⟨q3, q4⟩
      rcases hc with hc | ⟨_, hc⟩
      · rw [hc, upd_ne hb, ← hc]; exact z
      · rw [upd_ne (fun y => hc (by rw [y]; exact ha))]; exact z
  · rw [upd_ne (fun z => ?_)]
    · exact r.fr b u q1 q2
    · subst z
      rcases r.cnew b ha with y | y
      · exact q2 y
      · rw [q1] at y; cases y
  · by_cases hb : b = a
    · subst hb; rw [upd_same]; simp
    · rw [upd_ne hb]; exact r.gr b z
/-- a dict that is walked is locked from then on -/
theorem Rel.lock (r : Rel K B S F ρ H) {u : HO} (hF : F a = some u) (hu : lockO u = true) (ob : Obj) : Rel K B S (upd F a (.frz ob u)) ρ (upd H a (.frz ob u)) ∧ Ext F ρ (upd F a (.frz ob u)) ρ := by
  have e : Ext F ρ (upd F a (.frz ob u)) ρ := ⟨fun b v q => by
    by_cases hb : b = a
    · subst hb
      rw [hF] at q; cases q
      exact .inr ⟨hu, ob, upd_same⟩
    · exact .inl (by rw [upd_ne hb]; exact q), fun _ _ q => q⟩
  have hH : H a = some u := r.le a u hF
  have hr : Rd (upd F a (.frz ob u)) a u := .inr ⟨ob, upd_same⟩
  refine ⟨⟨fun b v q => ?_, r.len, r.nd, fun k b hb => ?_, fun k b v q1 q2 => ?_, fun b v q1 q2 => ?_, fun b v q => ?_, r.cnew, fun b q => ?_⟩, e⟩
  · by_cases hb : b = a
    · subst hb; rw [upd_same] at q ⊢; exact q
    · rw [upd_ne hb] at q ⊢; exact r.le b v q
  · rcases r.out k b hb with z | z
    · rw [upd_ne (fun y => by rw [y, hF] at z; cases z)]; exact .inl z
    · exact .inr z
  · by_cases hb : b = a
    · subst hb
      rcases r.out k b q1 with z | ⟨t, kvs, z⟩
      · rw [hF] at z; cases z
      · rw [q2] at z; cases z
        have base := r.cell k b _ q1 q2
        cases t with
        | false => obtain ⟨ps, z1, z2⟩ := base; exact ⟨ps, e.f.rd z1, RepK.mono e z2⟩
        | true => obtain ⟨ps, z1, z2⟩ := base; exact ⟨ps, e.f.rd z1, RepT.mono e z2⟩
    · refine (r.cell k b v q1 q2).mono e (fun c w z hc => ?_) fun c w z q3 q4 => ⟨?_, q4⟩
      · rw [upd_ne (fun y => ?_)]
        · exact z
        · subst y
          rcases hc with hc | ⟨hc, _⟩
          · exact hb hc.symm
          · rw [hF] at hc; cases hc
      · rw [upd_ne (fun y => by rw [y, hF] at q3; cases q3)]; exact q3
  · by_cases hb : b = a
    · subst hb
      have hn : B.F0 b ≠ none := by
        rcases r.new b u hF with y | y | ⟨xs, rfl⟩ | y
        · exact y
        · rw [y] at q1; cases q1
        · cases hu
        · exact absurd y q2
      rcases r.fr b v q1 q2 with y | ⟨_, _, ob2, y⟩
      · rw [hH] at y; cases y
        exact .inr ⟨hn, hu, ob, upd_same⟩
      · rw [hH] at y; cases y; cases hu
    · rw [upd_ne hb]; exact r.fr b v q1 q2
  · by_cases hb : b = a
    · subst hb
      rcases r.new b u hF with y | y | ⟨xs, rfl⟩ | y
      · exact .inl y
      · exact .inr (.inl y)
      · cases hu
      · exact .inr (.inr (.inr y))
    · rw [upd_ne hb] at q; exact r.new b v q
  · by_cases hb : b = a
    · subst hb; rw [upd_same]; simp
    · rw [upd_ne hb]; exact r.gr b q
theorem RepO.noTup (l : Le F H) (h : RepO K B F ρ H a o) {xs : List V} : H a ≠ some (.tup xs) := by
  intro e
  cases o with
  | fz t kvs => cases t <;> (obtain ⟨vs, q, _⟩ := h; rcases l.rd q with q | ⟨_, q⟩ <;> (rw [e] at q; cases q))
  | lst ds => obtain ⟨vs, q, _⟩ := h; rw [e] at q; cases q
  | dct t kvs => cases t <;> (obtain ⟨vs, q, _⟩ := h; rw [e] at q; cases q)
  | ins c fs => obtain ⟨_, _, q, _⟩ := h; rw [e] at q; cases q
  | st g => obtain ⟨_, _, _, _, _, q, _⟩ := h; rw [e] at q; cases q
/-- a tuple that stands in the heap may be known -/
theorem Rel.addTup (r : Rel K B S F ρ H) {q : Addr} {xs : List V} (h : H q = some (.tup xs)) : Rel K B S (upd F q (.tup xs)) ρ H ∧ Ext F ρ (upd F q (.tup xs)) ρ := by
  have hq : q ∉ ρ := fun z => by
    obtain ⟨k, hk, e⟩ := List.mem_iff_getElem.mp z
    obtain ⟨o, _, y⟩ := r.at_cell (k := k) (a := q) (by simp [hk, e])
    exact y.noTup r.le h
  have e : Ext F ρ (upd F q (.tup xs)) ρ := ⟨fun b v y => .inl (by
    by_cases hb : b = q
    · subst hb
      have := r.le _ _ y
      rw [h] at this; cases this
      exact upd_same
    · rw [upd_ne hb]; exact y), fun _ _ z => z⟩
  refine ⟨⟨fun b v y => ?_, r.len, r.nd, fun k b hb => ?_, fun k b v q1 q2 => ?_, r.fr, fun b v y => ?_, r.cnew, r.gr⟩, e⟩
  · by_cases hb : b = q
    · subst hb; rw [upd_same] at y; cases y; exact h
    · rw [upd_ne hb] at y; exact r.le b v y
  · rw [upd_ne (fun z => hq (by rw [← z]; exact List.mem_of_getElem? hb))]; exact r.out k b hb
  · have base := r.cell k b v q1 q2
    cases v with
    | lst ds => obtain ⟨vs, z1, z2⟩ := base; exact ⟨vs, z1, z2.mono e⟩
    | dct t kvs => cases t with
      | false => obtain ⟨vs, z1, z2⟩ := base; exact ⟨vs, z1, RepK.mono e z2⟩
      | true => obtain ⟨vs, z1, z2⟩ := base; exact ⟨vs, z1, RepT.mono e z2⟩
    | ins c fs => obtain ⟨dx, ps, z1, z2, z3⟩ := base; exact ⟨dx, ps, z1, e.f.ex z2, RepF.mono e z3⟩
    | fz t kvs => cases t with
      | false => obtain ⟨vs, z1, z2⟩ := base; exact ⟨vs, e.f.rd z1, RepK.mono e z2⟩
      | true => obtain ⟨vs, z1, z2⟩ := base; exact ⟨vs, e.f.rd z1, RepT.mono e z2⟩
    | st g =>
      obtain ⟨a0, a1, ns, ms, n, z1, z2, z3, z4, z5, z6, z7, z8, z9⟩ := base
      refine ⟨a0, a1, ns, ms, n, z1, z2, e.f.ex z3, z4, z5, z6, z7, ?_, z9⟩
      rw [upd_ne (fun y => by rw [y, h] at z2; cases z2)]; exact z8
  · by_cases hb : b = q
    · subst hb; rw [upd_same] at y; cases y; exact .inr (.inr (.inl ⟨xs, rfl⟩))
    · rw [upd_ne hb] at y; exact r.new b v y
end
/-- an exception's fields -/
def ExcR (K : PySem.W.Frag) (F : Hp) (ρ : List Addr) (dxo : Option Addr) (fs : List (String × D)) : Prop := (fs = [] ∧ dxo = none) ∨ ∃ dd ps, dxo = some dd ∧ F dd = some (.xd ps) ∧ RepF K F ρ ps fs ∧ fs ≠ []
theorem ExcR.mono {dxo : Option Addr} {fs : List (String × D)} (e : Ext F ρ F' ρ') (h : ExcR K F ρ dxo fs) : ExcR K F' ρ' dxo fs := by
  rcases h with h | ⟨dd, ps, h1, h2, h3, h4⟩
  · exact .inl h
  · exact .inr ⟨dd, ps, h1, e.f.ex h2, RepF.mono e h3, h4⟩
/-- the handled exception: the slot that holds it, its address, its class, its dict -/
structure Hx where
  slot : Nat
  a : Addr
  c : String
  d : Option Addr
abbrev Xi := Option Hx
/-- what stands in a slot -/
def SlotR (K : PySem.W.Frag) (xi : Xi) (F : Hp) (ρ : List Addr) (i : Nat) (v : V) (d : D) : Prop := match xi with
  | none => Rep K F ρ v d
  | some q => if i = q.slot then v = .ref q.a ∧ ∃ fs, d = .ins q.c fs ∧ ExcR K F ρ q.d fs else Rep K F ρ v d
theorem SlotR.mono {xi : Xi} {i : Nat} {v : V} {d : D} (e : Ext F ρ F' ρ') (h : SlotR K xi F ρ i v d) : SlotR K xi F' ρ' i v d := by
  unfold SlotR at *
  split at h
  · exact Rep.mono e h
  · split at h
    · rename_i z
      rw [if_pos z]
      obtain ⟨h1, fs, h2, h3⟩ := h
      exact ⟨h1, fs, h2, h3.mono e⟩
    · rename_i z
      rw [if_neg z]
      exact Rep.mono e h
/-- no exception stands in slot i -/
def offX (xi : Xi) (i : Nat) : Bool := match xi with
  | none => true
  | some q => i != q.slot
theorem SlotR.off {xi : Xi} {i : Nat} {v : V} {d : D} (o : offX xi i = true) : SlotR K xi F ρ i v d ↔ Rep K F ρ v d := by
  unfold SlotR
  cases xi with
  | none => rfl
  | some q =>
    have : ¬ i = q.slot := by simpa [offX] using o
    simp [this]
/-- an environment -/
def EnvR (K : PySem.W.Frag) (xi : Xi) (F : Hp) (ρ : List Addr) (env : Env) (σ : L2.St) : Prop :=
  env.length = σ.length ∧ ∀ (i : Nat) (d : D), env[i]? = some (some d) → ∃ v, σ[i]? = some (some v) ∧ SlotR K xi F ρ i v d
theorem EnvR.mono {xi : Xi} {env : Env} {σ : L2.St} (h : EnvR K xi F ρ env σ) (e : Ext F ρ F' ρ') : EnvR K xi F' ρ' env σ := ⟨h.1, fun i d q => let ⟨v, h1, h2⟩ := h.2 i d q; ⟨v, h1, h2.mono e⟩⟩
theorem EnvR.set {xi : Xi} {env : Env} {σ : L2.St} {v : V} {d : D} {i : Nat} (h : EnvR K xi F ρ env σ) (o : offX xi i = true) (r : Rep K F ρ v d) : EnvR K xi F ρ (env.set i (some d)) (σ.set i (some v)) := by
  refine ⟨by simp [h.1], fun j e q => ?_⟩
  by_cases hj : j = i
  · subst hj
    have hl : j < env.length := by
      have := (List.getElem?_eq_some_iff.mp q).1
      simpa using this
    rw [List.getElem?_set_self hl] at q
    cases q
    exact ⟨v, by rw [List.getElem?_set_self (by rw [← h.1]; exact hl)], (SlotR.off o).mpr r⟩
  · rw [List.getElem?_set_ne (Ne.symm hj)] at q
    rw [List.getElem?_set_ne (Ne.symm hj)]
    exact h.2 j e q
theorem EnvR.unset {xi : Xi} {env : Env} {σ : L2.St} (h : EnvR K xi F ρ env σ) (i : Nat) : EnvR K xi F ρ (env.set i none) (σ.set i none) := by
  refine ⟨by simp [h.1], fun j e q => ?_⟩
  by_cases hj : j = i
  · subst hj
    have hl : j < env.length := by
      have := (List.getElem?_eq_some_iff.mp q).1
      simpa using this
    rw [List.getElem?_set_self hl] at q
    cases q
  · rw [List.getElem?_set_ne (Ne.symm hj)] at q
    rw [List.getElem?_set_ne (Ne.symm hj)]
    exact h.2 j e q
theorem EnvR.wipe {xi : Xi} {env : Env} {σ : L2.St} (h : EnvR K xi F ρ env σ) : ∀ vs : List Nat, EnvR K xi F ρ (wipeE env vs) (wipe σ vs)
  | [] => h
  | v :: vs => (EnvR.wipe h vs).unset v
end
end WM
set_option maxHeartbeats 1000000
namespace WM
open PySem PySem.Spec PyProof.Rows L2
section
variable (K : PySem.W.Frag) (xi : Xi) (B : Bs) (W : WX)
/-- what follows: a value; an exception; a truth value; values -/
def Post (F : Hp) (ρ : List Addr) (Qn : QN) (Q : VK) : Prop := ∀ d S v H' F' ρ', Qn d S → Rel K B S F' ρ' H' → Ext F ρ F' ρ' → Rep K F' ρ' v d → Q v H'
def PostX (F : Hp) (ρ : List Addr) (Qx : QX) (σ : L2.St) : Prop := ∀ c fs S dxo H' F' ρ', Qx c fs S → Rel K B S F' ρ' H' → Ext F ρ F' ρ' → ExcR K F' ρ' dxo fs → W (.ref (He.ga K c)) dxo σ H'
def PostT (F : Hp) (ρ : List Addr) (Qn : Bool → Store → Prop) (Q : Bool → Hp → Prop) : Prop := ∀ b S H' F' ρ', Qn b S → Rel K B S F' ρ' H' → Ext F ρ F' ρ' → Q b H'
def PostL (F : Hp) (ρ : List Addr) (Qn : List D → Store → Prop) (Q : List V → Hp → Prop) : Prop := ∀ ds S vs H' F' ρ', Qn ds S → Rel K B S F' ρ' H' → Ext F ρ F' ρ' → RepL K F' ρ' vs ds → Q vs H'
abbrev WE := Env → Store → QN → QX → Prop
abbrev WT := Env → Store → (Bool → Store → Prop) → QX → Prop
abbrev WL := Env → Store → (List D → Store → Prop) → QX → Prop
def tE (w : WE) : TE := fun σ H Q => ∃ env S F ρ Qn Qx, Rel K B S F ρ H ∧ EnvR K xi F ρ env σ ∧ w env S Qn Qx ∧ Post K B F ρ Qn Q ∧ PostX K B W F ρ Qx σ
def tT (w : WT) : TT := fun σ H Q => ∃ env S F ρ Qn Qx, Rel K B S F ρ H ∧ EnvR K xi F ρ env σ ∧ w env S Qn Qx ∧ PostT K B F ρ Qn Q ∧ PostX K B W F ρ Qx σ
def tL (w : WL) : TA := fun σ H Q => ∃ env S F ρ Qn Qx, Rel K B S F ρ H ∧ EnvR K xi F ρ env σ ∧ w env S Qn Qx ∧ PostL K B F ρ Qn Q ∧ PostX K B W F ρ Qx σ
end
section
variable {K : PySem.W.Frag} {xi : Xi} {B : Bs} {W : WX} {F F1 : Hp} {ρ ρ1 : List Addr} {S : Store} {H : Hp}
theorem PostX.ext {Qx : QX} {σ : L2.St} (h : PostX K B W F ρ Qx σ) (e : Ext F ρ F1 ρ1) : PostX K B W F1 ρ1 Qx σ := fun c fs S dxo H' F' ρ' q r e2 x => h c fs S dxo H' F' ρ' q r (e.trans e2) x
theorem Post.ext {Qn : QN} {Q : VK} (h : Post K B F ρ Qn Q) (e : Ext F ρ F1 ρ1) : Post K B F1 ρ1 Qn Q := fun d S v H' F' ρ' q r e2 x => h d S v H' F' ρ' q r (e.trans e2) x
theorem PostT.ext {Qn : Bool → Store → Prop} {Q : Bool → Hp → Prop} (h : PostT K B F ρ Qn Q) (e : Ext F ρ F1 ρ1) : PostT K B F1 ρ1 Qn Q := fun d S H' F' ρ' q r e2 => h d S H' F' ρ' q r (e.trans e2)
theorem PostL.ext {Qn : List D → Store → Prop} {Q : List V → Hp → Prop} (h : PostL K B F ρ Qn Q) (e : Ext F ρ F1 ρ1) : PostL K B F1 ρ1 Qn Q := fun d S v H' F' ρ' q r e2 x => h d S v H' F' ρ' q r (e.trans e2) x
theorem _root_.L2.PE.weak {X : Cx} {e : Expr} {t t' : TE} (h : PE X e t) (k : ∀ σ H Q, t' σ H Q → t σ H Q) : PE X e t' := ⟨fun pins s σ H Q I q => h.run pins s σ H Q I (k σ H Q q)⟩
theorem _root_.L2.PT.weak {X : Cx} {e : Expr} {t t' : TT} (h : PT X e t) (k : ∀ σ H Q, t' σ H Q → t σ H Q) : PT X e t' := ⟨fun pins s σ H Q I q => h.run pins s σ H Q I (k σ H Q q)⟩
theorem _root_.L2.PA.weak {X : Cx} {e : List Expr} {t t' : TA} (h : PA X e t) (k : ∀ σ H Q, t' σ H Q → t σ H Q) : PA X e t' := ⟨fun pos pins s σ H Q I q => h.run pos pins s σ H Q I (k σ H Q q)⟩
theorem _root_.L2.PS.weak {X : Cx} {e : Stmt} {t t' : TS} (h : PS X e t) (k : ∀ D σ H, t' D σ H → t D σ H) : PS X e t' := ⟨fun pins s σ H D I q => h.run pins s σ H D I (k D σ H q)⟩
theorem _root_.L2.PSs.weak {X : Cx} {e : List Stmt} {t t' : TS} (h : PSs X e t) (k : ∀ D σ H, t' D σ H → t D σ H) : PSs X e t' := ⟨fun pins s σ H D I q => h.run pins s σ H D I (k D σ H q)⟩
theorem _root_.L2.PE.or {X : Cx} {e : Expr} {t t' : TE} (h : PE X e t) (h' : PE X e t') : PE X e (fun σ H Q => t σ H Q ∨ t' σ H Q) := ⟨fun pins s σ H Q I q => q.elim (h.run pins s σ H Q I) (h'.run pins s σ H Q I)⟩
theorem _root_.L2.PS.or {X : Cx} {e : Stmt} {t t' : TS} (h : PS X e t) (h' : PS X e t') : PS X e (fun D σ H => t D σ H ∨ t' D σ H) := ⟨fun pins s σ H D I q => q.elim (h.run pins s σ H D I) (h'.run pins s σ H D I)⟩
theorem rep_int {v : V} {x : D} {i : Int} (r : Rep K F ρ v x) (h : deref S x = .int i) : v = .int i := by
  cases x with
  | int j => simp [deref] at h; subst h; exact r
  | cell k => simp only [deref] at h; split at h <;> cases h
  | _ => cases h
theorem rep_str {v : V} {x : D} {i : Str} (r : Rep K F ρ v x) (h : deref S x = .str i) : v = .str i := by
  cases x with
  | str j => simp [deref] at h; subst h; exact r
  | cell k => simp only [deref] at h; split at h <;> cases h
  | _ => cases h
theorem rep_bl {v : V} {x : D} {i : Bool} (r : Rep K F ρ v x) (h : deref S x = .bl i) : v = .bl i := by
  cases x with
  | bl j => simp [deref] at h; subst h; exact r
  | cell k => simp only [deref] at h; split at h <;> cases h
  | _ => cases h
theorem rep_non {v : V} {x : D} (r : Rep K F ρ v x) (h : deref S x = .non) : v = .non := by
  cases x with
  | non => exact r
  | cell k => simp only [deref] at h; split at h <;> cases h
  | _ => cases h
theorem rep_tup {v : V} {x : D} {ds : List D} (R : Rel K B S F ρ H) (r : Rep K F ρ v x) (h : deref S x = .tup ds) : ∃ a vs, v = .ref a ∧ H a = some (.tup vs) ∧ RepL K F ρ vs ds := by
  cases x with
  | tup j =>
    simp [deref] at h; subst h
    obtain ⟨a, vs, h1, h2, h3⟩ := r
    exact ⟨a, vs, h1, R.le.ex h2 rfl, h3⟩
  | cell k => simp only [deref] at h; split at h <;> cases h
  | _ => cases h
theorem rep_lst {v : V} {x : D} {ds : List D} (R : Rel K B S F ρ H) (r : Rep K F ρ v x) (h : deref S x = .lst ds) : ∃ a vs, v = .ref a ∧ H a = some (.lst vs) ∧ RepL K F ρ vs ds := by
  cases x with
  | lst j =>
    simp [deref] at h; subst h
    obtain ⟨a, vs, h1, h2, h3⟩ := r
    exact ⟨a, vs, h1, R.le.ex h2 rfl, h3⟩
  | cell k =>
    obtain ⟨a, h1, h2⟩ := r
    obtain ⟨o, h3, h4⟩ := R.at_cell h1
    simp only [deref, h3] at h
    cases o with
    | lst es =>
      simp at h; subst h
      obtain ⟨vs, h5, h6⟩ := h4
      exact ⟨a, vs, h2, h5, h6⟩
    | _ => cases h
  | _ => cases h
def RdD (K : PySem.W.Frag) (F : Hp) (ρ : List Addr) (H : Hp) (a : Addr) : Bool → List (D × D) → Prop
  | false, kvs => ∃ ps, Rd H a (.dK ps) ∧ RepK K F ρ ps kvs
  | true, kvs => ∃ ps, Rd H a (.dT ps) ∧ RepT K F ρ ps kvs
theorem rep_dct {v : V} {x : D} {t : Bool} {kvs : List (D × D)} (R : Rel K B S F ρ H) (r : Rep K F ρ v x) (h : deref S x = .dct t kvs) : ∃ a, v = .ref a ∧ RdD K F ρ H a t kvs := by
  cases x with
  | dct u j =>
    simp [deref] at h; obtain ⟨rfl, rfl⟩ := h
    cases u with
    | false => obtain ⟨a, ps, h1, h2, h3⟩ := r; exact ⟨a, h1, ps, R.le.rd h2, h3⟩
    | true => obtain ⟨a, ps, h1, h2, h3⟩ := r; exact ⟨a, h1, ps, R.le.rd h2, h3⟩
  | cell k =>
    obtain ⟨a, h1, h2⟩ := r
    obtain ⟨o, h3, h4⟩ := R.at_cell h1
    simp only [deref, h3] at h
    cases o with
    | dct u es =>
      simp at h; obtain ⟨rfl, rfl⟩ := h
      cases u with
      | false => obtain ⟨ps, h5, h6⟩ := h4; exact ⟨a, h2, ps, .inl h5, h6⟩
      | true => obtain ⟨ps, h5, h6⟩ := h4; exact ⟨a, h2, ps, .inl h5, h6⟩
    | _ => cases h
  | _ => cases h
theorem rep_seq {v : V} {x : D} {ds : List D} (R : Rel K B S F ρ H) (r : Rep K F ρ v x) (h : getSq S x = some ds) : ∃ a vs, v = .ref a ∧ (SqL K H a vs ∨ SqT K H a vs) ∧ RepL K F ρ vs ds := by
  unfold getSq at h
  cases e : deref S x with
  | lst es =>
    rw [e] at h; cases h
    obtain ⟨a, vs, h1, h2, h3⟩ := rep_lst R r e
    exact ⟨a, vs, h1, .inl (SqL.of h2), h3⟩
  | tup es =>
    rw [e] at h; cases h
    obtain ⟨a, vs, h1, h2, h3⟩ := rep_tup R r e
    exact ⟨a, vs, h1, .inr (SqT.of h2), h3⟩
  | _ => rw [e] at h; cases h
/-- two values in, a value out -/
def r2 (K : PySem.W.Frag) (B : Bs) (f : Store → D → D → Option D) : R2 := fun v u H Q => ∃ S F ρ x y d, Rel K B S F ρ H ∧ Rep K F ρ v x ∧ Rep K F ρ u y ∧ f S x y = some d ∧
  ∀ w H' F' ρ', Rel K B S F' ρ' H' → Ext F ρ F' ρ' → Rep K F' ρ' w d → Q w H'
variable {X : Cx}
theorem bin_ok : ∀ o : Bin, OpR X (binaryOp (match o with | .add => .Add | .sub => .Sub | .mul => .Mult | .fdiv => .FloorDiv | .mod => .Mod | .pow => .Pow)) (r2 X.K B (binop o)) := by
  intro o pins s σ H x y v u Q I rx ry h
  obtain ⟨S, F, ρ, a, b, d, R, ra, rb, e, q⟩ := h
  unfold binop at e
  split at e
  · rename_i i j h1 h2
    obtain rfl := rep_int ra h1
    obtain rfl := rep_int rb h2
    cases o <;> simp only [intOp, Option.map_eq_some_iff, guard_some, Option.some.injEq] at e
    · obtain ⟨_, rfl, rfl⟩ := e
      exact op_add pins s σ H _ _ v u Q I rx ry ⟨i, j, rfl, rfl, q _ _ _ _ R Ext.refl rfl⟩
    · obtain ⟨_, rfl, rfl⟩ := e
      exact op_sub pins s σ H _ _ v u Q I rx ry ⟨i, j, rfl, rfl, q _ _ _ _ R Ext.refl rfl⟩
    · obtain ⟨_, ⟨c, rfl⟩, rfl⟩ := e
      exact op_mul pins s σ H _ _ v u Q I rx ry ⟨i, j, rfl, rfl, c, q _ _ _ _ R Ext.refl rfl⟩
    · obtain ⟨_, ⟨c, rfl⟩, rfl⟩ := e
      exact op_fdiv pins s σ H _ _ v u Q I rx ry ⟨i, j, rfl, rfl, c, q _ _ _ _ R Ext.refl rfl⟩
    · obtain ⟨_, ⟨c, rfl⟩, rfl⟩ := e
      exact op_mod pins s σ H _ _ v u Q I rx ry ⟨i, j, rfl, rfl, c, q _ _ _ _ R Ext.refl rfl⟩
    · obtain ⟨_, ⟨c, rfl⟩, rfl⟩ := e
      exact op_pow pins s σ H _ _ v u Q I rx ry ⟨i, j, rfl, rfl, c, q _ _ _ _ R Ext.refl rfl⟩
  generalize h1 : deref S a = a2 at e
  generalize h2 : deref S b = b2 at e
  unfold binS at e
  split at e
  · rename_i i j
    obtain rfl := rep_str ra h1
    obtain rfl := rep_str rb h2
    rw [guard_some] at e
    obtain ⟨c, rfl⟩ := e
    exact op_add_str pins s σ H _ _ v u Q I rx ry ⟨i, j, rfl, rfl, c, q _ _ _ _ R Ext.refl rfl⟩
  · rename_i i j
    rw [guard_some] at e
    obtain ⟨⟨c1, c2⟩, rfl⟩ := e
    obtain ⟨l, vs, rfl, hl, rl⟩ := rep_tup R ra h1
    obtain ⟨m, us, rfl, hm, rm⟩ := rep_tup R rb h2
    refine op_catT pins s σ H _ _ v u Q I rx ry ⟨l, m, vs, us, rfl, rfl, SqT.of hl, SqT.of hm, fun z => c1 ?_, by rw [rl.length, rm.length]; exact c2, fun z => ?_, fun z p hp => ?_⟩
    · have := rl.length; rw [z] at this; exact List.eq_nil_of_length_eq_zero this.symm
    · have hj : j = [] := by have := rm.length; rw [z] at this; exact List.eq_nil_of_length_eq_zero this.symm
      refine q _ _ _ _ R Ext.refl ?_
      rw [hj, List.append_nil]
      cases a with
      | tup k => simp [deref] at h1; rw [← h1]; exact ra
      | cell k => simp only [deref] at h1; split at h1 <;> cases h1
      | _ => cases h1
    · obtain ⟨R2, e2⟩ := R.alloc (ho := .tup (vs ++ us)) hp
      exact q _ _ _ _ R2 e2 ⟨p, _, rfl, upd_same, (rl.mono e2).append (rm.mono e2)⟩
  · rename_i i j
    rw [guard_some] at e
    obtain ⟨c2, rfl⟩ := e
    obtain ⟨l, vs, rfl, hl, rl⟩ := rep_lst R ra h1
    obtain ⟨m, us, rfl, hm, rm⟩ := rep_lst R rb h2
    refine op_cat pins s σ H _ _ v u Q I rx ry ⟨l, m, vs, us, rfl, rfl, hl, hm, by rw [rl.length, rm.length]; exact c2, fun p hp => ?_⟩
    obtain ⟨R2, e2⟩ := R.alloc (ho := .lst (vs ++ us)) hp
    exact q _ _ _ _ R2 e2 ⟨p, _, rfl, upd_same, (rl.mono e2).append (rm.mono e2)⟩
  · rename_i i j
    rw [guard_some] at e
    obtain ⟨⟨c1, c2, c3⟩, rfl⟩ := e
    obtain ⟨l, vs, rfl, hl, rl⟩ := rep_lst R ra h1
    obtain rfl := rep_int rb h2
    refine op_rep pins s σ H _ _ v u Q I rx ry ⟨l, j, vs, rfl, rfl, hl, c1, c2, by rw [rl.length]; exact c3, fun p hp => ?_⟩
    obtain ⟨R2, e2⟩ := R.alloc (ho := .lst (List.replicate j.toNat vs).flatten) hp
    refine q _ _ _ _ R2 e2 ⟨p, _, rfl, upd_same, ?_⟩
    have z := rl.mono e2
    have key : ∀ n : Nat, RepL X.K (upd F p (HO.lst (List.replicate j.toNat vs).flatten)) ρ (List.replicate n vs).flatten (List.replicate n i).flatten := fun n => by
      induction n with
      | zero => exact True.intro
      | succ n ih => rw [List.replicate_succ, List.flatten_cons, List.replicate_succ, List.flatten_cons]; exact z.append ih
    exact key _
  · cases e
end
end WM
set_option maxHeartbeats 1000000
namespace WM
open PySem PySem.Spec PyProof.Rows L2
section
variable {K : PySem.W.Frag} {B : Bs} {F : Hp} {ρ : List Addr} {S : Store} {H : Hp}
mutual
/-- what plain data stands for, in the heap itself -/
theorem rep_heap (l : Le F H) : ∀ {d : D} {v : V} {n : Nat}, plain n d = true → Rep K F ρ v d → Rep K H ρ v d
  | .non, _, _, _, h => h
  | .bl _, _, _, _, h => h
  | .int _, _, _, _, h => h
  | .str _, _, _, _, h => h
  | .tup ds, _, n, p, ⟨a, vs, h1, h2, h3⟩ => by
    cases n with
    | zero => simp [plain] at p
    | succ n =>
      simp only [plain, List.all_eq_true] at p
      exact ⟨a, vs, h1, l.ex h2 rfl, repL_heap l p h3⟩
  | .lst ds, _, n, p, ⟨a, vs, h1, h2, h3⟩ => by
    cases n with
    | zero => simp [plain] at p
    | succ n =>
      simp only [plain, List.all_eq_true] at p
      exact ⟨a, vs, h1, l.ex h2 rfl, repL_heap l p h3⟩
  | .cell _, _, n, p, _ => by cases n <;> simp [plain] at p
  | .dct _ _, _, n, p, _ => by cases n <;> simp [plain] at p
  | .ins _ _, _, n, p, _ => by cases n <;> simp [plain] at p
  | .scr _, _, n, p, _ => by cases n <;> simp [plain] at p
  | .fn _, _, n, p, _ => by cases n <;> simp [plain] at p
  | .er _ _, _, n, p, _ => by cases n <;> simp [plain] at p
theorem repL_heap (l : Le F H) : ∀ {ds : List D} {vs : List V} {n : Nat}, (∀ x ∈ ds, plain n x = true) → RepL K F ρ vs ds → RepL K H ρ vs ds
  | [], [], _, _, h => h
  | d :: ds, v :: vs, n, p, ⟨h1, h2⟩ => ⟨rep_heap l (p d (by simp)) h1, repL_heap l (fun x hx => p x (by simp [hx])) h2⟩
  | [], _ :: _, _, _, h => h.elim
  | _ :: _, [], _, _, h => h.elim
end
theorem rep_deref (R : Rel K B S F ρ H) {x : D} {v : V} {n : Nat} (r : Rep K F ρ v x) (p : plain n (deref S x) = true) : Rep K H ρ v (deref S x) := by
  cases e : deref S x with
  | lst ds =>
    rw [e] at p
    obtain ⟨a, vs, h1, h2, h3⟩ := rep_lst R r e
    cases n with
    | zero => simp [plain] at p
    | succ n =>
      simp only [plain, List.all_eq_true] at p
      exact ⟨a, vs, h1, h2, repL_heap R.le p h3⟩
  | tup ds =>
    rw [e] at p
    obtain ⟨a, vs, h1, h2, h3⟩ := rep_tup R r e
    cases n with
    | zero => simp [plain] at p
    | succ n =>
      simp only [plain, List.all_eq_true] at p
      exact ⟨a, vs, h1, h2, repL_heap R.le p h3⟩
  | non => exact rep_non r e
  | bl b => exact rep_bl r e
  | int b => exact rep_int r e
  | str b => exact rep_str r e
  | _ => rw [e] at p; cases n <;> simp [plain] at p
mutual
/-- a value stands for one plain thing -/
theorem rep_uniq : ∀ {d e : D} {v : V} {n m : Nat}, plain n d = true → plain m e = true → Rep K H ρ v d → Rep K H ρ v e → d = e
  | .non, e, v, n, m, p, q, h, h' => by
    cases e <;> first
      | rfl
      | (exfalso; rw [show v = .non from h] at h'; first | (cases (show V.non = _ from h'); done) | (obtain ⟨_, _, z, _⟩ := h'; cases z; done) | (cases m <;> simp [plain] at q; done))
  | .bl b, e, v, n, m, p, q, h, h' => by
    cases e <;> first
      | (rw [show v = .bl b from h] at h'; cases (show V.bl b = V.bl _ from h'); rfl)
      | (exfalso; rw [show v = .bl b from h] at h'; first | (cases (show V.bl b = _ from h'); done) | (obtain ⟨_, _, z, _⟩ := h'; cases z; done) | (cases m <;> simp [plain] at q; done))
  | .int b, e, v, n, m, p, q, h, h' => by
    cases e <;> first
      | (rw [show v = .int b from h] at h'; cases (show V.int b = V.int _ from h'); rfl)
      | (exfalso; rw [show v = .int b from h] at h'; first | (cases (show V.int b = _ from h'); done) | (obtain ⟨_, _, z, _⟩ := h'; cases z; done) | (cases m <;> simp [plain] at q; done))
  | .str b, e, v, n, m, p, q, h, h' => by
    cases e <;> first
      | (rw [show v = .str b from h] at h'; cases (show V.str b = V.str _ from h'); rfl)
      | (exfalso; rw [show v = .str b from h] at h'; first | (cases (show V.str b = _ from h'); done) | (obtain ⟨_, _, z, _⟩ := h'; cases z; done) | (cases m <;> simp [plain] at q; done))
  | .tup ds, e, v, n, m, p, q, ⟨a, vs, h1, h2, h3⟩, h' => by
    subst h1
    cases e with
    | tup es =>
      obtain ⟨b, us, z, g2, g3⟩ := h'
      cases z
      rw [h2] at g2; cases g2
      cases n with
      | zero => simp [plain] at p
      | succ n =>
        cases m with
        | zero => simp [plain] at q
        | succ m =>
          simp only [plain, List.all_eq_true] at p q
          rw [repL_uniq p q h3 g3]
    | lst es =>
      obtain ⟨b, us, z, g2, g3⟩ := h'
      cases z
      rw [h2] at g2; cases g2
    | non => cases (show V.ref a = _ from h')
    | bl _ => cases (show V.ref a = _ from h')
    | int _ => cases (show V.ref a = _ from h')
    | str _ => cases (show V.ref a = _ from h')
    | _ => cases m <;> simp [plain] at q
  | .lst ds, e, v, n, m, p, q, ⟨a, vs, h1, h2, h3⟩, h' => by
    subst h1
    cases e with
    | lst es =>
      obtain ⟨b, us, z, g2, g3⟩ := h'
      cases z
      rw [h2] at g2; cases g2
      cases n with
      | zero => simp [plain] at p
      | succ n =>
        cases m with
        | zero => simp [plain] at q
        | succ m =>
          simp only [plain, List.all_eq_true] at p q
          rw [repL_uniq p q h3 g3]
    | tup es =>
      obtain ⟨b, us, z, g2, g3⟩ := h'
      cases z
      rw [h2] at g2; cases g2
    | non => cases (show V.ref a = _ from h')
    | bl _ => cases (show V.ref a = _ from h')
    | int _ => cases (show V.ref a = _ from h')
    | str _ => cases (show V.ref a = _ from h')
    | _ => cases m <;> simp [plain] at q
  | .cell _, _, _, n, _, p, _, _, _ => by cases n <;> simp [plain] at p
  | .dct _ _, _, _, n, _, p, _, _, _ => by cases n <;> simp [plain] at p
  | .ins _ _, _, _, n, _, p, _, _, _ => by cases n <;> simp [plain] at p
  | .scr _, _, _, n, _, p, _, _, _ => by cases n <;> simp [plain] at p
  | .fn _, _, _, n, _, p, _, _, _ => by cases n <;> simp [plain] at p
  | .er _ _, _, _, n, _, p, _, _, _ => by cases n <;> simp [plain] at p
theorem repL_uniq : ∀ {ds es : List D} {vs : List V} {n m : Nat}, (∀ x ∈ ds, plain n x = true) → (∀ x ∈ es, plain m x = true) → RepL K H ρ vs ds → RepL K H ρ vs es → ds = es
  | [], [], [], _, _, _, _, _, _ => rfl
  | d :: ds, e :: es, v :: vs, n, m, p, q, ⟨h1, h2⟩, ⟨g1, g2⟩ => by
    rw [rep_uniq (p d (by simp)) (q e (by simp)) h1 g1, repL_uniq (fun x hx => p x (by simp [hx])) (fun x hx => q x (by simp [hx])) h2 g2]
  | [], _ :: _, [], _, _, _, _, _, h => h.elim
  | _ :: _, [], [], _, _, _, _, h, _ => h.elim
  | [], _, _ :: _, _, _, _, _, h, _ => h.elim
  | _ :: _, [], _ :: _, _, _, _, _, _, h => h.elim
  | _ :: _, _ :: _, [], _, _, _, _, h, _ => h.elim
end
mutual
theorem eqv_refl : ∀ {d : D} {n : Nat}, plain n d = true → eqv d d = true
  | .non, _, _ => rfl
  | .bl _, _, _ => by simp [eqv]
  | .int _, _, _ => by simp [eqv]
  | .str _, _, _ => by simp [eqv]
  | .tup ds, n, p => by
    cases n with
    | zero => simp [plain] at p
    | succ n => simp only [plain, List.all_eq_true] at p; simp only [eqv]; exact eqvL_refl p
  | .lst ds, n, p => by
    cases n with
    | zero => simp [plain] at p
    | succ n => simp only [plain, List.all_eq_true] at p; simp only [eqv]; exact eqvL_refl p
  | .cell _, n, p => by cases n <;> simp [plain] at p
  | .dct _ _, n, p => by cases n <;> simp [plain] at p
  | .ins _ _, n, p => by cases n <;> simp [plain] at p
  | .scr _, n, p => by cases n <;> simp [plain] at p
  | .fn _, n, p => by cases n <;> simp [plain] at p
  | .er _ _, n, p => by cases n <;> simp [plain] at p
theorem eqvL_refl : ∀ {ds : List D} {n : Nat}, (∀ x ∈ ds, plain n x = true) → eqvL ds ds = true
  | [], _, _ => rfl
  | d :: ds, n, p => by
    have h1 := eqv_refl (p d (by simp))
    have h2 := eqvL_refl (ds := ds) (fun x hx => p x (List.mem_cons_of_mem _ hx))
    simp only [eqvL, h1, h2, Bool.and_self]
end
theorem eqvL_range : ∀ {ds es : List D} (f : Nat → Bool), (∀ j d e, ds[j]? = some d → es[j]? = some e → f j = eqv d e) → ((List.range (min ds.length es.length)).all f && ds.length == es.length) = eqvL ds es
  | [], [], f, _ => by simp [eqvL]
  | [], _ :: _, f, _ => by simp [eqvL]
  | _ :: _, [], f, _ => by simp [eqvL]
  | d :: ds, e :: es, f, h => by
    have ih := eqvL_range (ds := ds) (es := es) (fun j => f (j + 1)) (fun j d' e' h1 h2 => h (j + 1) d' e' (by simpa using h1) (by simpa using h2))
    have h0 := h 0 d e (by simp) (by simp)
    simp only [eqvL, ← ih, ← h0]
    rw [List.length_cons, List.length_cons, show min (ds.length + 1) (es.length + 1) = min ds.length es.length + 1 by omega, List.range_succ_eq_map, List.all_cons, List.all_map]
    simp [Bool.and_assoc, Function.comp_def]
variable {X : Cx} {pins : List (Addr × Obj)} {σ : L2.St} {s : Shared}
theorem vals_at {xs : List V} {us : List Value} (r : Vals xs us) {j : Nat} {u : Value} (h : us[j]? = some u) : ∃ x, xs[j]? = some x ∧ RelV x u := by
  cases e : xs[j]? with
  | none => rw [r.none_of e] at h; cases h
  | some x =>
    obtain ⟨u', h1, h2⟩ := r.get e
    rw [h] at h1; cases h1
    exact ⟨x, rfl, h2⟩
def scal4 : D → Bool
  | .non => true
  | .bl _ => true
  | .int _ => true
  | .str _ => true
  | _ => false
theorem plain_cases {n : Nat} {x : D} (p : plain n x = true) : scal4 x = true ∨ (∃ m ds, n = m + 1 ∧ x = .tup ds ∧ ∀ d ∈ ds, plain m d = true) ∨ ∃ m ds, n = m + 1 ∧ x = .lst ds ∧ ∀ d ∈ ds, plain m d = true := by
  cases n with
  | zero => cases x <;> first | exact .inl rfl | (exfalso; revert p; simp [plain]; done)
  | succ n =>
    cases x with
    | tup ds => exact .inr (.inl ⟨n, ds, rfl, rfl, by simpa [plain] using p⟩)
    | lst ds => exact .inr (.inr ⟨n, ds, rfl, rfl, by simpa [plain] using p⟩)
    | non => exact .inl rfl
    | bl _ => exact .inl rfl
    | int _ => exact .inl rfl
    | str _ => exact .inl rfl
    | _ => simp [plain] at p
theorem eq_sc {x y : D} {v u : V} {v' u' : Value} {A : Around} (p : scal4 x = true) (q : scal4 y = true) (rx : Rep K H ρ v x) (ry : Rep K H ρ u y) (hv : RelV v v') (hu : RelV u u') : SeqAt.EqAt A s v' u' (eqv x y) := by
  cases x with
  | non =>
    rw [show v = .non from rx] at hv; cases hv
    cases y with
    | non => rw [show u = .non from ry] at hu; cases hu; exact SeqAt.EqAt.same _
    | bl b => rw [show u = .bl b from ry] at hu; cases hu; exact SeqAt.EqAt.none_bool _
    | int b => rw [show u = .int b from ry] at hu; obtain ⟨t, rfl⟩ := hu; exact SeqAt.EqAt.none_int _ _
    | str b => rw [show u = .str b from ry] at hu; obtain ⟨t, rfl⟩ := hu; exact SeqAt.EqAt.none_str _ _
    | _ => cases q
  | bl a =>
    rw [show v = .bl a from rx] at hv; cases hv
    cases y with
    | non => rw [show u = .non from ry] at hu; cases hu; exact SeqAt.EqAt.bool_none _
    | bl b => rw [show u = .bl b from ry] at hu; cases hu; exact SeqAt.EqAt.bool_bool _ _
    | int b => rw [show u = .int b from ry] at hu; obtain ⟨t, rfl⟩ := hu; exact SeqAt.EqAt.bool_int _ _ _
    | str b => rw [show u = .str b from ry] at hu; obtain ⟨t, rfl⟩ := hu; exact SeqAt.EqAt.bool_str _ _ _
    | _ => cases q
  | int a =>
    rw [show v = .int a from rx] at hv; obtain ⟨t', rfl⟩ := hv
    cases y with
    | non => rw [show u = .non from ry] at hu; cases hu; exact SeqAt.EqAt.int_none _ _
    | bl b => rw [show u = .bl b from ry] at hu; cases hu; exact SeqAt.EqAt.int_bool _ _ _
    | int b => rw [show u = .int b from ry] at hu; obtain ⟨t, rfl⟩ := hu; exact SeqAt.EqAt.int_int _ _ _ _
    | str b => rw [show u = .str b from ry] at hu; obtain ⟨t, rfl⟩ := hu; exact SeqAt.EqAt.int_str _ _ _ _
    | _ => cases q
  | str a =>
    rw [show v = .str a from rx] at hv; obtain ⟨t', rfl⟩ := hv
    cases y with
    | non => rw [show u = .non from ry] at hu; cases hu; exact SeqAt.EqAt.str_none _ _
    | bl b => rw [show u = .bl b from ry] at hu; cases hu; exact SeqAt.EqAt.str_bool _ _ _
    | int b => rw [show u = .int b from ry] at hu; obtain ⟨t, rfl⟩ := hu; exact SeqAt.EqAt.str_int _ _ _ _
    | str b => rw [show u = .str b from ry] at hu; obtain ⟨t, rfl⟩ := hu; exact SeqAt.EqAt.str_str _ _ _ _
    | _ => cases q
  | _ => cases p
theorem eq_st {x : D} {es : List D} {b : Addr} {v : V} {v' : Value} {A : Around} {items : Array Value} (p : scal4 x = true) (rx : Rep K H ρ v x) (hv : RelV v v') (pl : s.heap.IsTuple b items) (hA : A.units < cLine) :
    SeqAt.EqAt A s v' (.ref b) (eqv x (.tup es)) ∧ SeqAt.EqAt A s (.ref b) v' (eqv (.tup es) x) := by
  cases x with
  | non => rw [show v = .non from rx] at hv; cases hv; exact ⟨SeqAt.EqAt.none_tuple pl hA, SeqAt.EqAt.tuple_none pl hA⟩
  | bl a => rw [show v = .bl a from rx] at hv; cases hv; exact ⟨SeqAt.EqAt.bool_tuple _ pl hA, SeqAt.EqAt.tuple_bool _ pl hA⟩
  | int a => rw [show v = .int a from rx] at hv; obtain ⟨t', rfl⟩ := hv; exact ⟨SeqAt.EqAt.int_tuple _ _ pl hA, SeqAt.EqAt.tuple_int _ _ pl hA⟩
  | str a => rw [show v = .str a from rx] at hv; obtain ⟨t', rfl⟩ := hv; exact ⟨SeqAt.EqAt.str_tuple _ _ pl hA, SeqAt.EqAt.tuple_str _ _ pl hA⟩
  | _ => cases p
theorem eq_sl {x : D} {es : List D} {b : Addr} {v : V} {v' : Value} {A : Around} {items : Array Value} (p : scal4 x = true) (rx : Rep K H ρ v x) (hv : RelV v v') (pl : s.heap.IsList b items) (hA : A.units < cLine) :
    SeqAt.EqAt A s v' (.ref b) (eqv x (.lst es)) ∧ SeqAt.EqAt A s (.ref b) v' (eqv (.lst es) x) := by
  cases x with
  | non => rw [show v = .non from rx] at hv; cases hv; exact ⟨SeqAt.EqAt.none_list pl hA, SeqAt.EqAt.list_none pl hA⟩
  | bl a => rw [show v = .bl a from rx] at hv; cases hv; exact ⟨SeqAt.EqAt.bool_list _ pl hA, SeqAt.EqAt.list_bool _ pl hA⟩
  | int a => rw [show v = .int a from rx] at hv; obtain ⟨t', rfl⟩ := hv; exact ⟨SeqAt.EqAt.int_list _ _ pl hA, SeqAt.EqAt.list_int _ _ pl hA⟩
  | str a => rw [show v = .str a from rx] at hv; obtain ⟨t', rfl⟩ := hv; exact ⟨SeqAt.EqAt.str_list _ _ pl hA, SeqAt.EqAt.list_str _ _ pl hA⟩
  | _ => cases p
/-- == of plain things -/
theorem eq_at (I : Inv X pins σ H s) : ∀ (n : Nat) (x y : D) (v u : V) (v' u' : Value) (A : Around), plain n x = true → plain n y = true → Rep K H ρ v x → Rep K H ρ u y → RelV v v' → RelV u u' → A.units + n < cLine → SeqAt.EqAt A s v' u' (eqv x y) := by
  intro n
  induction n with
  | zero =>
    intro x y v u v' u' A p q rx ry hv hu hA
    rcases plain_cases p with p | ⟨_, _, z, _⟩ | ⟨_, _, z, _⟩
    · rcases plain_cases q with q | ⟨_, _, z, _⟩ | ⟨_, _, z, _⟩
      · exact eq_sc p q rx ry hv hu
      · cases z
      · cases z
    · cases z
    · cases z
  | succ n ih =>
    intro x y v u v' u' A p q rx ry hv hu hA
    have hA0 : A.units < cLine := by omega
    have seqs : ∀ {ds es : List D} {vs us : List V} {its its2 : List Value}, (∀ d ∈ ds, plain n d = true) → (∀ d ∈ es, plain n d = true) → RepL K H ρ vs ds → RepL K H ρ us es → Vals vs its → Vals us its2 →
        ∀ j (h1 : j < its.toArray.size) (h2 : j < its2.toArray.size), SeqAt.EqAt A.in1 s its.toArray[j] its2.toArray[j] (match ds[j]?, es[j]? with | some d, some e => eqv d e | _, _ => true) := by
      intro ds es vs us its its2 pd pe rd re r r' j h1 h2
      have e1 : its[j]? = some its.toArray[j] := by simp at h1; simp [h1]
      have e2 : its2[j]? = some its2.toArray[j] := by simp at h2; simp [h2]
      obtain ⟨v1, q1, w1⟩ := vals_at r e1
      obtain ⟨v2, q2, w2⟩ := vals_at r' e2
      obtain ⟨d, g1, z1⟩ := rd.getV q1
      obtain ⟨e, g2, z2⟩ := re.getV q2
      rw [g1, g2]
      exact ih d e v1 v2 _ _ A.in1 (pd d (List.mem_of_getElem? g1)) (pe e (List.mem_of_getElem? g2)) z1 z2 w1 w2 (by show A.units + 1 + n < cLine; omega)
    have p0 := p
    have q0 := q
    rcases plain_cases p with p | ⟨m, ds, hm, rfl, pd⟩ | ⟨m, ds, hm, rfl, pd⟩
    · rcases plain_cases q with q | ⟨m', es, _, rfl, qd⟩ | ⟨m', es, _, rfl, qd⟩
      · exact eq_sc p q rx ry hv hu
      · obtain ⟨b, us, rfl, hb, re⟩ := ry
        cases hu
        obtain ⟨its2, r', pl', _⟩ := I.tuple (SqT.of hb)
        exact (eq_st p rx hv pl' hA0).1
      · obtain ⟨b, us, rfl, hb, re⟩ := ry
        cases hu
        obtain ⟨its2, r', pl', _⟩ := I.list (SqL.of hb)
        exact (eq_sl p rx hv pl'.isList hA0).1
    · obtain ⟨a, vs, rfl, ha, rd⟩ := rx
      cases hv
      obtain ⟨its, r, pl, _⟩ := I.tuple (SqT.of ha)
      obtain rfl : m = n := by omega
      rcases plain_cases q with q | ⟨m', es, hm', rfl, qd⟩ | ⟨m', es, _, rfl, qd⟩
      · exact (eq_st q ry hu pl hA0).2
      · obtain ⟨b, us, rfl, hb, re⟩ := ry
        cases hu
        obtain rfl : m' = m := by omega
        obtain ⟨its2, r', pl', _⟩ := I.tuple (SqT.of hb)
        by_cases e : a = b
        · subst e
          rw [ha] at hb; cases hb
          have := repL_uniq pd qd rd re
          subst this
          rw [eqv_refl q0]
          exact SeqAt.EqAt.same _
        · refine SeqAt.EqAt.of_refs e ?_
          have := SeqAt.RcAt.tuples pl pl' (A := A) hA0 (seqs pd qd rd re r r')
          rw [List.size_toArray, List.size_toArray, ← r.length, ← r'.length, rd.length, re.length] at this
          rw [eqvL_range (ds := ds) (es := es) _ (fun j d e h1 h2 => by simp only [h1, h2])] at this
          exact this
      · obtain ⟨b, us, rfl, hb, re⟩ := ry
        cases hu
        obtain ⟨its2, r', pl', _⟩ := I.list (SqL.of hb)
        exact SeqAt.EqAt.tuple_list pl pl'.isList hA0
    · obtain ⟨a, vs, rfl, ha, rd⟩ := rx
      cases hv
      obtain ⟨its, r, pl, _⟩ := I.list (SqL.of ha)
      obtain rfl : m = n := by omega
      rcases plain_cases q with q | ⟨m', es, hm', rfl, qd⟩ | ⟨m', es, hm', rfl, qd⟩
      · exact (eq_sl q ry hu pl.isList hA0).2
      · obtain ⟨b, us, rfl, hb, re⟩ := ry
        cases hu
        obtain ⟨its2, r', pl', _⟩ := I.tuple (SqT.of hb)
        exact SeqAt.EqAt.list_tuple pl.isList pl' hA0
      · obtain ⟨b, us, rfl, hb, re⟩ := ry
        cases hu
        obtain rfl : m' = m := by omega
        obtain ⟨its2, r', pl', _⟩ := I.list (SqL.of hb)
        have l1 : its.toArray.size = ds.length := by rw [List.size_toArray, ← r.length, rd.length]
        have l2 : its2.toArray.size = es.length := by rw [List.size_toArray, ← r'.length, re.length]
        by_cases e : a = b
        · subst e
          rw [ha] at hb; cases hb
          have := repL_uniq pd qd rd re
          subst this
          rw [eqv_refl q0]
          exact SeqAt.EqAt.same _
        · refine SeqAt.EqAt.of_refs e ?_
          have key := eqvL_range (ds := ds) (es := es) _ (fun j d e h1 h2 => show (match ds[j]?, es[j]? with | some d, some e => eqv d e | _, _ => true) = eqv d e by simp only [h1, h2])
          show SeqAt.RcAt A s _ _ (eqvL ds es)
          rw [← key]
          by_cases hl : ds.length = es.length
          · have := SeqAt.RcAt.lists pl.isList pl'.isList (A := A) (by rw [l1, l2, hl]) hA0 (seqs pd qd rd re r r')
            rw [l1] at this
            rw [hl, Nat.min_self]
            rw [hl] at this
            simpa using this
          · have := SeqAt.RcAt.lists_lengths (A := A) pl.isList pl'.isList (by rw [l1, l2]; simpa using hl) hA0
            have z : (ds.length == es.length) = false := by simpa using hl
            rw [z, Bool.and_false]
            exact this
end
end WM
set_option maxHeartbeats 1000000
namespace WM
open PySem PySem.Spec PyProof.Rows L2
section
variable {K : PySem.W.Frag} {B : Bs} {F : Hp} {ρ : List Addr} {S : Store} {H : Hp}
variable {X : Cx} {pins : List (Addr × Obj)} {σ : L2.St} {s : Shared}
theorem rc_sc {x y : D} {v u : V} {v' u' : Value} {A : Around} (p : scal4 x = true) (q : scal4 y = true) (rx : Rep K H ρ v x) (ry : Rep K H ρ u y) (hv : RelV v v') (hu : RelV u u') : SeqAt.RcAt A s v' u' (eqv x y) ∧ SeqAt.RcNeAt A s v' u' (!eqv x y) := by
  cases x with
  | non =>
    rw [show v = .non from rx] at hv; cases hv
    cases y with
    | non => rw [show u = .non from ry] at hu; cases hu; exact ⟨SeqAt.RcAt.none_none, SeqAt.RcNeAt.none_none⟩
    | bl b => rw [show u = .bl b from ry] at hu; cases hu; exact ⟨SeqAt.RcAt.none_bool _, SeqAt.RcNeAt.none_bool _⟩
    | int b => rw [show u = .int b from ry] at hu; obtain ⟨t, rfl⟩ := hu; exact ⟨SeqAt.RcAt.none_int _ _, SeqAt.RcNeAt.none_int _ _⟩
    | str b => rw [show u = .str b from ry] at hu; obtain ⟨t, rfl⟩ := hu; exact ⟨SeqAt.RcAt.none_str _ _, SeqAt.RcNeAt.none_str _ _⟩
    | _ => cases q
  | bl a =>
    rw [show v = .bl a from rx] at hv; cases hv
    cases y with
    | non => rw [show u = .non from ry] at hu; cases hu; exact ⟨SeqAt.RcAt.bool_none _, SeqAt.RcNeAt.bool_none _⟩
    | bl b => rw [show u = .bl b from ry] at hu; cases hu; exact ⟨SeqAt.RcAt.bool_bool _ _, SeqAt.RcNeAt.bool_bool _ _⟩
    | int b => rw [show u = .int b from ry] at hu; obtain ⟨t, rfl⟩ := hu; exact ⟨SeqAt.RcAt.bool_int _ _ _, SeqAt.RcNeAt.bool_int _ _ _⟩
    | str b => rw [show u = .str b from ry] at hu; obtain ⟨t, rfl⟩ := hu; exact ⟨SeqAt.RcAt.bool_str _ _ _, SeqAt.RcNeAt.bool_str _ _ _⟩
    | _ => cases q
  | int a =>
    rw [show v = .int a from rx] at hv; obtain ⟨t', rfl⟩ := hv
    cases y with
    | non => rw [show u = .non from ry] at hu; cases hu; exact ⟨SeqAt.RcAt.int_none _ _, SeqAt.RcNeAt.int_none _ _⟩
    | bl b => rw [show u = .bl b from ry] at hu; cases hu; exact ⟨SeqAt.RcAt.int_bool _ _ _, SeqAt.RcNeAt.int_bool _ _ _⟩
    | int b => rw [show u = .int b from ry] at hu; obtain ⟨t, rfl⟩ := hu; exact ⟨SeqAt.RcAt.int_int _ _ _ _, SeqAt.RcNeAt.int_int _ _ _ _⟩
    | str b => rw [show u = .str b from ry] at hu; obtain ⟨t, rfl⟩ := hu; exact ⟨SeqAt.RcAt.int_str _ _ _ _, SeqAt.RcNeAt.int_str _ _ _ _⟩
    | _ => cases q
  | str a =>
    rw [show v = .str a from rx] at hv; obtain ⟨t', rfl⟩ := hv
    cases y with
    | non => rw [show u = .non from ry] at hu; cases hu; exact ⟨SeqAt.RcAt.str_none _ _, SeqAt.RcNeAt.str_none _ _⟩
    | bl b => rw [show u = .bl b from ry] at hu; cases hu; exact ⟨SeqAt.RcAt.str_bool _ _ _, SeqAt.RcNeAt.str_bool _ _ _⟩
    | int b => rw [show u = .int b from ry] at hu; obtain ⟨t, rfl⟩ := hu; exact ⟨SeqAt.RcAt.str_int _ _ _ _, SeqAt.RcNeAt.str_int _ _ _ _⟩
    | str b => rw [show u = .str b from ry] at hu; obtain ⟨t, rfl⟩ := hu; exact ⟨SeqAt.RcAt.str_str _ _ _ _, SeqAt.RcNeAt.str_str _ _ _ _⟩
    | _ => cases q
  | _ => cases p
theorem rc_st {x : D} {es : List D} {b : Addr} {v : V} {v' : Value} {A : Around} {items : Array Value} (p : scal4 x = true) (rx : Rep K H ρ v x) (hv : RelV v v') (pl : s.heap.IsTuple b items) (hA : A.units < cLine) :
    (SeqAt.RcAt A s v' (.ref b) (eqv x (.tup es)) ∧ SeqAt.RcNeAt A s v' (.ref b) (!eqv x (.tup es))) ∧ (SeqAt.RcAt A s (.ref b) v' (eqv (.tup es) x) ∧ SeqAt.RcNeAt A s (.ref b) v' (!eqv (.tup es) x)) := by
  cases x with
  | non => rw [show v = .non from rx] at hv; cases hv; exact ⟨⟨SeqAt.RcAt.none_tuple pl hA, SeqAt.RcNeAt.none_tuple pl hA⟩, SeqAt.RcAt.tuple_none pl hA, SeqAt.RcNeAt.tuple_none pl hA⟩
  | bl a => rw [show v = .bl a from rx] at hv; cases hv; exact ⟨⟨SeqAt.RcAt.bool_tuple _ pl hA, SeqAt.RcNeAt.bool_tuple _ pl hA⟩, SeqAt.RcAt.tuple_bool _ pl hA, SeqAt.RcNeAt.tuple_bool _ pl hA⟩
  | int a => rw [show v = .int a from rx] at hv; obtain ⟨t', rfl⟩ := hv; exact ⟨⟨SeqAt.RcAt.int_tuple _ _ pl hA, SeqAt.RcNeAt.int_tuple _ _ pl hA⟩, SeqAt.RcAt.tuple_int _ _ pl hA, SeqAt.RcNeAt.tuple_int _ _ pl hA⟩
  | str a => rw [show v = .str a from rx] at hv; obtain ⟨t', rfl⟩ := hv; exact ⟨⟨SeqAt.RcAt.str_tuple _ _ pl hA, SeqAt.RcNeAt.str_tuple _ _ pl hA⟩, SeqAt.RcAt.tuple_str _ _ pl hA, SeqAt.RcNeAt.tuple_str _ _ pl hA⟩
  | _ => cases p
theorem rc_sl {x : D} {es : List D} {b : Addr} {v : V} {v' : Value} {A : Around} {items : Array Value} (p : scal4 x = true) (rx : Rep K H ρ v x) (hv : RelV v v') (pl : s.heap.IsList b items) (hA : A.units < cLine) :
    (SeqAt.RcAt A s v' (.ref b) (eqv x (.lst es)) ∧ SeqAt.RcNeAt A s v' (.ref b) (!eqv x (.lst es))) ∧ (SeqAt.RcAt A s (.ref b) v' (eqv (.lst es) x) ∧ SeqAt.RcNeAt A s (.ref b) v' (!eqv (.lst es) x)) := by
  cases x with
  | non => rw [show v = .non from rx] at hv; cases hv; exact ⟨⟨SeqAt.RcAt.none_list pl hA, SeqAt.RcNeAt.none_list pl hA⟩, SeqAt.RcAt.list_none pl hA, SeqAt.RcNeAt.list_none pl hA⟩
  | bl a => rw [show v = .bl a from rx] at hv; cases hv; exact ⟨⟨SeqAt.RcAt.bool_list _ pl hA, SeqAt.RcNeAt.bool_list _ pl hA⟩, SeqAt.RcAt.list_bool _ pl hA, SeqAt.RcNeAt.list_bool _ pl hA⟩
  | int a => rw [show v = .int a from rx] at hv; obtain ⟨t', rfl⟩ := hv; exact ⟨⟨SeqAt.RcAt.int_list _ _ pl hA, SeqAt.RcNeAt.int_list _ _ pl hA⟩, SeqAt.RcAt.list_int _ _ pl hA, SeqAt.RcNeAt.list_int _ _ pl hA⟩
  | str a => rw [show v = .str a from rx] at hv; obtain ⟨t', rfl⟩ := hv; exact ⟨⟨SeqAt.RcAt.str_list _ _ pl hA, SeqAt.RcNeAt.str_list _ _ pl hA⟩, SeqAt.RcAt.list_str _ _ pl hA, SeqAt.RcNeAt.list_str _ _ pl hA⟩
  | _ => cases p
theorem eqvL_len : ∀ {ds es : List D}, eqvL ds es = true → ds.length = es.length
  | [], [], _ => rfl
  | _ :: _, _ :: _, h => by simp only [eqvL, Bool.and_eq_true] at h; simp [eqvL_len h.2]
  | [], _ :: _, h => by simp [eqvL] at h
  | _ :: _, [], h => by simp [eqvL] at h
/-- == and != of plain things -/
theorem rc_at (I : Inv X pins σ H s) {n : Nat} {x y : D} {v u : V} {v' u' : Value} {A : Around} (p : plain n x = true) (q : plain n y = true) (rx : Rep K H ρ v x) (ry : Rep K H ρ u y) (hv : RelV v v') (hu : RelV u u') (hA : A.units + n < cLine) :
    SeqAt.RcAt A s v' u' (eqv x y) ∧ SeqAt.RcNeAt A s v' u' (!eqv x y) := by
  have hA0 : A.units < cLine := by omega
  have seqs : ∀ {m : Nat} {ds es : List D} {vs us : List V} {its its2 : List Value}, n = m + 1 → (∀ d ∈ ds, plain m d = true) → (∀ d ∈ es, plain m d = true) → RepL K H ρ vs ds → RepL K H ρ us es → Vals vs its → Vals us its2 →
      ∀ j (h1 : j < its.toArray.size) (h2 : j < its2.toArray.size), SeqAt.EqAt A.in1 s its.toArray[j] its2.toArray[j] (match ds[j]?, es[j]? with | some d, some e => eqv d e | _, _ => true) := by
    intro m ds es vs us its its2 hm pd pe rd re r r' j h1 h2
    have e1 : its[j]? = some its.toArray[j] := by simp at h1; simp [h1]
    have e2 : its2[j]? = some its2.toArray[j] := by simp at h2; simp [h2]
    obtain ⟨v1, q1, w1⟩ := vals_at r e1
    obtain ⟨v2, q2, w2⟩ := vals_at r' e2
    obtain ⟨d, g1, z1⟩ := rd.getV q1
    obtain ⟨e, g2, z2⟩ := re.getV q2
    rw [g1, g2]
    exact eq_at I m d e v1 v2 _ _ A.in1 (pd d (List.mem_of_getElem? g1)) (pe e (List.mem_of_getElem? g2)) z1 z2 w1 w2 (by show A.units + 1 + m < cLine; omega)
  rcases plain_cases p with p | ⟨m, ds, hm, rfl, pd⟩ | ⟨m, ds, hm, rfl, pd⟩
  · rcases plain_cases q with q | ⟨m', es, _, rfl, qd⟩ | ⟨m', es, _, rfl, qd⟩
    · exact rc_sc p q rx ry hv hu
    · obtain ⟨b, us, rfl, hb, re⟩ := ry
      cases hu
      obtain ⟨its2, r', pl', _⟩ := I.tuple (SqT.of hb)
      exact (rc_st p rx hv pl' hA0).1
    · obtain ⟨b, us, rfl, hb, re⟩ := ry
      cases hu
      obtain ⟨its2, r', pl', _⟩ := I.list (SqL.of hb)
      exact (rc_sl p rx hv pl'.isList hA0).1
  · obtain ⟨a, vs, rfl, ha, rd⟩ := rx
    cases hv
    obtain ⟨its, r, pl, _⟩ := I.tuple (SqT.of ha)
    rcases plain_cases q with q | ⟨m', es, hm', rfl, qd⟩ | ⟨m', es, _, rfl, qd⟩
    · exact (rc_st q ry hu pl hA0).2
    · obtain ⟨b, us, rfl, hb, re⟩ := ry
      cases hu
      obtain rfl : m' = m := by omega
      obtain ⟨its2, r', pl', _⟩ := I.tuple (SqT.of hb)
      have key := eqvL_range (ds := ds) (es := es) _ (fun j d e h1 h2 => show (match ds[j]?, es[j]? with | some d, some e => eqv d e | _, _ => true) = eqv d e by simp only [h1, h2])
      have t1 := SeqAt.RcAt.tuples pl pl' (A := A) hA0 (seqs hm pd qd rd re r r')
      have t2 := SeqAt.RcNeAt.tuples pl pl' (A := A) hA0 (seqs hm pd qd rd re r r')
      rw [List.size_toArray, List.size_toArray, ← r.length, ← r'.length, rd.length, re.length, key] at t1 t2
      exact ⟨t1, t2⟩
    · obtain ⟨b, us, rfl, hb, re⟩ := ry
      cases hu
      obtain ⟨its2, r', pl', _⟩ := I.list (SqL.of hb)
      exact ⟨SeqAt.RcAt.tuple_list pl pl'.isList hA0, SeqAt.RcNeAt.tuple_list pl pl'.isList hA0⟩
  · obtain ⟨a, vs, rfl, ha, rd⟩ := rx
    cases hv
    obtain ⟨its, r, pl, _⟩ := I.list (SqL.of ha)
    rcases plain_cases q with q | ⟨m', es, hm', rfl, qd⟩ | ⟨m', es, hm', rfl, qd⟩
    · exact (rc_sl q ry hu pl.isList hA0).2
    · obtain ⟨b, us, rfl, hb, re⟩ := ry
      cases hu
      obtain ⟨its2, r', pl', _⟩ := I.tuple (SqT.of hb)
      exact ⟨SeqAt.RcAt.list_tuple pl.isList pl' hA0, SeqAt.RcNeAt.list_tuple pl.isList pl' hA0⟩
    · obtain ⟨b, us, rfl, hb, re⟩ := ry
      cases hu
      obtain rfl : m' = m := by omega
      obtain ⟨its2, r', pl', _⟩ := I.list (SqL.of hb)
      have l1 : its.toArray.size = ds.length := by rw [List.size_toArray, ← r.length, rd.length]
      have l2 : its2.toArray.size = es.length := by rw [List.size_toArray, ← r'.length, re.length]
      have key := eqvL_range (ds := ds) (es := es) _ (fun j d e h1 h2 => show (match ds[j]?, es[j]? with | some d, some e => eqv d e | _, _ => true) = eqv d e by simp only [h1, h2])
      show SeqAt.RcAt A s _ _ (eqvL ds es) ∧ SeqAt.RcNeAt A s _ _ (!eqvL ds es)
      by_cases hl : ds.length = es.length
      · have t1 := SeqAt.RcAt.lists pl.isList pl'.isList (A := A) (by rw [l1, l2, hl]) hA0 (seqs hm pd qd rd re r r')
        have t2 := SeqAt.RcNeAt.lists pl.isList pl'.isList (A := A) (by rw [l1, l2, hl]) hA0 (seqs hm pd qd rd re r r')
        rw [hl, Nat.min_self] at key
        simp only [beq_self_eq_true, Bool.and_true] at key
        rw [l1, hl, key] at t1 t2
        exact ⟨t1, t2⟩
      · have t1 := SeqAt.RcAt.lists_lengths (A := A) pl.isList pl'.isList (by rw [l1, l2]; simpa using hl) hA0
        have t2 := SeqAt.RcNeAt.lists_lengths (A := A) pl.isList pl'.isList (by rw [l1, l2]; simpa using hl) hA0
        have z : eqvL ds es = false := by
          cases e : eqvL ds es with
          | false => rfl
          | true => exact absurd (eqvL_len e) hl
        rw [z]
        exact ⟨t1, t2⟩
theorem key_flat {u : V} {k : D} (h : flatK k = true) (r : Rep K F ρ u k) : ∃ κ : Key, k = kOf κ ∧ u = kV κ := by
  cases k with
  | int i => exact ⟨.inl i, rfl, r⟩
  | str i => exact ⟨.inr i, rfl, r⟩
  | _ => cases h
theorem keys_flat : ∀ {us : List V} {ds : List D}, (∀ d ∈ ds, flatK d = true) → RepL K F ρ us ds → ∃ κs : List Key, ds = κs.map kOf ∧ us = κs.map kV
  | [], [], _, _ => ⟨[], rfl, rfl⟩
  | u :: us, d :: ds, h, ⟨h1, h2⟩ => by
    obtain ⟨κ, e1, e2⟩ := key_flat (h d (by simp)) h1
    obtain ⟨κs, e3, e4⟩ := keys_flat (fun x hx => h x (List.mem_cons_of_mem _ hx)) h2
    exact ⟨κ :: κs, by rw [e1, e3]; rfl, by rw [e2, e4]; rfl⟩
  | [], _ :: _, _, h => h.elim
  | _ :: _, [], _, h => h.elim
theorem key_tup {u : V} {k : D} (h : keyOk true k = true) (r : Rep K F ρ u k) : ∃ (κs : List Key) (b : Addr), k = .tup (κs.map kOf) ∧ u = .ref b ∧ F b = some (.tup (κs.map kV)) := by
  cases k with
  | tup ds =>
    simp only [keyOk, if_true, List.all_eq_true] at h
    obtain ⟨b, us, h1, h2, h3⟩ := r
    obtain ⟨κs, e1, e2⟩ := keys_flat h h3
    exact ⟨κs, b, by rw [e1], h1, by rw [h2, e2]⟩
  | _ => simp [keyOk] at h
def Look2 (K : PySem.W.Frag) (F : Hp) (ρ : List Addr) : Option D → Option V → Prop
  | some x, some w => Rep K F ρ w x
  | none, none => True
  | _, _ => False
theorem valK (κ : Key) : ∀ {ps : List (Key × V)} {kvs : List (D × D)}, RepK K F ρ ps kvs → Look2 K F ρ (kvs.lookup (kOf κ)) (valV ps κ)
  | [], [], _ => True.intro
  | (k, v) :: ps, (a, x) :: kvs, ⟨h0, h1, h2⟩ => by
    by_cases e : k = κ
    · subst e h0
      rw [valV_pos rfl]
      simp only [List.lookup, beq_self_eq_true]
      exact h1
    · rw [valV_neg e]
      have z : (kOf κ == a) = false := by rw [← h0]; exact beq_eq_false_iff_ne.mpr fun q => e (kOf_inj q).symm
      simp only [List.lookup, z]
      exact valK κ h2
  | [], _ :: _, h => h.elim
  | _ :: _, [], h => h.elim
theorem map_kOf_inj : ∀ {a b : List Key}, a.map kOf = b.map kOf → a = b
  | [], [], _ => rfl
  | x :: a, y :: b, h => by
    simp only [List.map_cons, List.cons.injEq] at h
    rw [kOf_inj h.1, map_kOf_inj h.2]
  | [], _ :: _, h => by simp at h
  | _ :: _, [], h => by simp at h
theorem valT (κ : List Key) : ∀ {ps : List (List Key × V)} {kvs : List (D × D)}, RepT K F ρ ps kvs → Look2 K F ρ (kvs.lookup (.tup (κ.map kOf))) (valV ps κ)
  | [], [], _ => True.intro
  | (k, v) :: ps, (a, x) :: kvs, ⟨h0, h1, h2⟩ => by
    by_cases e : k = κ
    · subst e h0
      rw [valV_pos rfl]
      simp only [List.lookup, beq_self_eq_true]
      exact h1
    · rw [valV_neg e]
      have z : (D.tup (κ.map kOf) == a) = false := by
        rw [← h0]
        exact beq_eq_false_iff_ne.mpr fun q => e (map_kOf_inj (by injection q)).symm
      simp only [List.lookup, z]
      exact valT κ h2
  | [], _ :: _, h => h.elim
  | _ :: _, [], h => h.elim
theorem dget (R : Rel K B S F ρ H) {a : Addr} {u : V} {t : Bool} {kvs : List (D × D)} {k : D} (h : RdD K F ρ H a t kvs) (hk : keyOk t k = true) (r : Rep K F ρ u k) : ∃ o, DGet H a u o ∧ Look2 K F ρ (kvs.lookup k) o := by
  cases t with
  | false =>
    obtain ⟨ps, h1, h2⟩ := h
    obtain ⟨κ, rfl, rfl⟩ := key_flat (by simpa [keyOk] using hk) r
    exact ⟨_, .inl ⟨ps, κ, h1, rfl, rfl⟩, valK κ h2⟩
  | true =>
    obtain ⟨ps, h1, h2⟩ := h
    obtain ⟨κs, b, rfl, rfl, hb⟩ := key_tup hk r
    exact ⟨_, .inr ⟨ps, κs, b, h1, rfl, R.le.ex hb rfl, rfl⟩, valT κs h2⟩
def rC (K : PySem.W.Frag) (B : Bs) (f : Store → D → D → Option Bool) : R2 := fun v u H Q => ∃ S F ρ x y b, Rel K B S F ρ H ∧ Rep K F ρ v x ∧ Rep K F ρ u y ∧ f S x y = some b ∧ Q (.bl b) H
theorem eqF_ok (hA : X.A.units + 8 < cLine) (I : Inv X pins σ H s) (R : Rel K B S F ρ H) {x y : D} {v u : V} {v' u' : Value} {b : Bool} (rx : Rep K F ρ v x) (ry : Rep K F ρ u y) (hv : RelV v v') (hu : RelV u u') (h : eqF (deref S x) (deref S y) = some b) :
    SeqAt.RcAt X.A s v' u' b ∧ SeqAt.RcNeAt X.A s v' u' (!b) := by
  unfold eqF at h
  rw [guard_some] at h
  obtain ⟨⟨h1, h2⟩, rfl⟩ := h
  exact rc_at I h1 h2 (rep_deref R rx h1) (rep_deref R ry h2) hv hu hA
theorem dict_eq_ok (hA : X.A.units + 9 < cLine) (I : Inv X pins σ H s) (R : Rel K B S F ρ H) {a b : Addr} {kvs kws : List (D × D)} (ha : RdD K F ρ H a false kvs) (hb : RdD K F ρ H b false kws) (p : ∀ q ∈ kvs, plain 8 q.2 = true) (q : ∀ r ∈ kws, plain 8 r.2 = true)
    {Q : Value → Shared → Prop} {E : Value → Shared → Prop} (h : Q (.bool (eqDc kvs kws)) s) : wpAny (model X.prog X.w) X.A (compareOp .Eq (.ref a) (.ref b)) Q E s := by
  obtain ⟨ps, h1, h2⟩ := ha
  obtain ⟨us, g1, g2⟩ := hb
  obtain ⟨_, na, ka, kva, da⟩ := dk_rd I.hok h1
  obtain ⟨_, nb, kb, kvb, db⟩ := dk_rd I.hok g1
  -- what a pair answers
  let e : Key → Bool := fun k => match kvs.lookup (kOf k), kws.lookup (kOf k) with
    | some x, some y => eqv x y
    | _, _ => false
  have nd : (ka.map (·.1)).Nodup := by obtain ⟨_, _, _, _, _, _, _, _, z⟩ := da; exact z
  have look : ∀ {ps : List (Key × V)} {l : List (D × D)} {kl : List (Key × Value)}, RepK K F ρ ps l → KV ps kl → ∀ k, (∃ x w v, l.lookup (kOf k) = some x ∧ valV ps k = some w ∧ valueAt kl k = some v ∧ RelV w v ∧ Rep K F ρ w x ∧ ∃ p ∈ l, p.2 = x) ∨ (l.lookup (kOf k) = none ∧ valueAt kl k = none) := by
    intro ps l kl hr hk k
    have z := valK (K := K) (F := F) (ρ := ρ) k hr
    have z2 : ∀ {ps : List (Key × V)} {kl : List (Key × Value)}, KV ps kl → (∃ w v, valV ps k = some w ∧ valueAt kl k = some v ∧ RelV w v) ∨ (valV ps k = none ∧ valueAt kl k = none) := by
      intro ps kl hk
      induction hk with
      | nil => exact .inr ⟨rfl, rfl⟩
      | @cons p q ps kl r t ih =>
        by_cases hq : p.1 = k
        · left
          refine ⟨p.2, q.2, valV_pos hq, ?_, r.2⟩
          unfold valueAt
          rw [List.find?_cons_of_pos (by simpa [← r.1] using hq)]
          rfl
        · rw [valV_neg hq]
          have : valueAt (q :: kl) k = valueAt kl k := by
            unfold valueAt
            rw [List.find?_cons_of_neg (by simpa [← r.1] using hq)]
          rw [this]
          exact ih
    rcases z2 hk with ⟨w, v, e1, e2, e3⟩ | ⟨e1, e2⟩
    · rw [e1] at z
      cases hl : l.lookup (kOf k) with
      | none => rw [hl] at z; exact z.elim
      | some x =>
        rw [hl] at z
        refine .inl ⟨x, w, v, rfl, e1, e2, e3, z, ?_⟩
        have : ∀ {l : List (D × D)}, l.lookup (kOf k) = some x → ∃ p ∈ l, p.2 = x := by
          intro l
          induction l with
          | nil => intro h; simp [List.lookup] at h
          | cons p l ih =>
            intro h
            obtain ⟨a, y⟩ := p
            simp only [List.lookup] at h
            split at h
            · exact ⟨(a, y), by simp, by simpa using h⟩
            · obtain ⟨p, h1, h2⟩ := ih h
              exact ⟨p, List.mem_cons_of_mem _ h1, h2⟩
        exact this hl
    · rw [e1] at z
      cases hl : l.lookup (kOf k) with
      | none => exact .inr ⟨rfl, e2⟩
      | some x => rw [hl] at z; exact z.elim
  refine PySem.W.eq_dictsT (n := 8) (e := e) na nb da db (fun k v y hm hy => ?_) (by omega) ?_
  · have hva : valueAt ka k = some v := by
      unfold valueAt
      have : ∀ {l : List (Key × Value)}, (l.map (·.1)).Nodup → (k, v) ∈ l → (l.find? fun kv => kv.1 = k) = some (k, v) := by
        intro l
        induction l with
        | nil => intro _ h; simp at h
        | cons p l ih =>
          intro hn h
          rw [List.map_cons, List.nodup_cons] at hn
          rcases List.mem_cons.mp h with h | h
          · rw [← h, List.find?_cons_of_pos (by simp)]
          · rw [List.find?_cons_of_neg, ih hn.2 h]
            intro z
            have z' : p.1 = k := by simpa using z
            exact hn.1 (by rw [z']; exact List.mem_map.mpr ⟨(k, v), h, rfl⟩)
      rw [this nd hm]
      rfl
    rcases look h2 kva k with ⟨x, w, v', l1, _, l3, l4, l5, px, l6, l7⟩ | ⟨_, l2⟩
    · rcases look g2 kvb k with ⟨x2, w2, v2, m1, _, m3, m4, m5, px2, m6, m7⟩ | ⟨_, m2⟩
      · rw [hva] at l3; cases l3
        rw [hy] at m3; cases m3
        have ee : e k = eqv x x2 := by show (match kvs.lookup (kOf k), kws.lookup (kOf k) with | some x, some y => eqv x y | _, _ => false) = _; rw [l1, m1]
        rw [ee]
        have px' : plain 8 x = true := by rw [← l7]; exact p _ l6
        have py' : plain 8 x2 = true := by rw [← m7]; exact q _ m6
        exact .leaf fun A hA' => eq_at I 8 x x2 w w2 _ _ A px' py' (rep_heap R.le px' l5) (rep_heap R.le py' m5) l4 m4 hA'
      · rw [hy] at m2; cases m2
    · rw [hva] at l2; cases l2
  · have el : (ka.length == kb.length) = (kvs.length == kws.length) := by
      have len : ∀ {ps : List (Key × V)} {l : List (D × D)}, RepK K F ρ ps l → ps.length = l.length := by
        intro ps
        induction ps with
        | nil => intro l h; cases l with
          | nil => rfl
          | cons _ _ => exact h.elim
        | cons p ps ih => intro l h; cases l with
          | nil => exact h.elim
          | cons q l => simp [ih h.2.2]
      rw [← Paired.length kva, ← Paired.length kvb, len h2, len g2]
    have ea : (ka.all fun p => (valueAt kb p.1).isSome && e p.1) = kvs.all fun p => match kws.lookup p.1 with | some v => eqv p.2 v | none => false := by
      have step : ∀ {ps : List (Key × V)} {l : List (D × D)} {kl : List (Key × Value)}, RepK K F ρ ps l → KV ps kl → (kl.map (·.1)).Nodup → (∀ k x, (kOf k, x) ∈ l → kvs.lookup (kOf k) = some x) →
          (kl.all fun p => (valueAt kb p.1).isSome && e p.1) = l.all fun p => match kws.lookup p.1 with | some v => eqv p.2 v | none => false := by
        intro ps
        induction ps with
        | nil =>
          intro l kl hr hk _ _
          cases hk
          cases l with
          | nil => rfl
          | cons _ _ => exact hr.elim
        | cons p ps ih =>
          intro l kl hr hk hn hl
          cases hk with
          | cons r t =>
            rename_i q kl
            cases l with
            | nil => exact hr.elim
            | cons z l =>
              obtain ⟨pk, pv⟩ := p
              obtain ⟨zk, zv⟩ := z
              obtain ⟨qk, qv⟩ := q
              obtain ⟨e0, e1, e2⟩ := hr
              obtain ⟨r1, r2⟩ := r
              have r1' : pk = qk := r1
              subst r1' e0
              rw [List.map_cons, List.nodup_cons] at hn
              rw [List.all_cons, List.all_cons, ih e2 t hn.2 (fun k x hx => hl k x (List.mem_cons_of_mem _ hx))]
              congr 1
              have h0 := hl pk zv (by simp)
              rcases look g2 kvb pk with ⟨x2, w2, v2, m1, _, m3, _⟩ | ⟨m1, m2⟩
              · show ((valueAt kb pk).isSome && (match kvs.lookup (kOf pk), kws.lookup (kOf pk) with | some x, some y => eqv x y | _, _ => false)) = _
                rw [m3, h0, m1]
                rfl
              · show ((valueAt kb pk).isSome && _) = _
                rw [m2]
                show false = match kws.lookup (kOf pk) with | some v => eqv zv v | none => false
                rw [m1]
      refine step h2 kva nd fun k x hx => ?_
      have nl : ∀ {ps : List (Key × V)} {l : List (D × D)} {kl : List (Key × Value)}, RepK K F ρ ps l → KV ps kl → (kl.map (·.1)).Nodup → (l.map (·.1)).Nodup := by
        intro ps
        induction ps with
        | nil => intro l kl hr hk _; cases l with
          | nil => simp
          | cons _ _ => exact hr.elim
        | cons p ps ih =>
          intro l kl hr hk hn
          cases hk with
          | cons r t =>
            rename_i q kl
            cases l with
            | nil => exact hr.elim
            | cons z l =>
              obtain ⟨pk, pv⟩ := p
              obtain ⟨zk, zv⟩ := z
              obtain ⟨qk, qv⟩ := q
              obtain ⟨e0, e1, e2⟩ := hr
              obtain ⟨r1, r2⟩ := r
              have r1' : pk = qk := r1
              subst r1' e0
              rw [List.map_cons, List.nodup_cons] at hn ⊢
              refine ⟨fun hm => hn.1 ?_, ih e2 t hn.2⟩
              obtain ⟨y, hy1, hy2⟩ := List.mem_map.mp hm
              have mem : ∀ {ps : List (Key × V)} {l : List (D × D)} {kl : List (Key × Value)}, RepK K F ρ ps l → KV ps kl → ∀ y ∈ l, y.1 = kOf pk → pk ∈ kl.map (·.1) := by
                intro ps
                induction ps with
                | nil => intro l kl hr hk y hy; cases l with
                  | nil => simp at hy
                  | cons _ _ => exact hr.elim
                | cons p ps ih =>
                  intro l kl hr hk y hy ey
                  cases hk with
                  | cons r t =>
                    cases l with
                    | nil => exact hr.elim
                    | cons z l =>
                      rcases List.mem_cons.mp hy with rfl | hy
                      · have : kOf p.1 = kOf pk := hr.1.trans ey
                        rw [List.map_cons, ← r.1, kOf_inj this]
                        simp
                      · rw [List.map_cons]
                        exact List.mem_cons_of_mem _ (ih hr.2.2 t y hy ey)
              exact mem e2 t y hy1 hy2
      have ndl := nl h2 kva nd
      have : ∀ {l : List (D × D)}, (l.map (·.1)).Nodup → (kOf k, x) ∈ l → l.lookup (kOf k) = some x := by
        intro l
        induction l with
        | nil => intro _ h; simp at h
        | cons p l ih =>
          intro hn h
          rw [List.map_cons, List.nodup_cons] at hn
          obtain ⟨a, y⟩ := p
          rcases List.mem_cons.mp h with h | h
          · cases h; simp [List.lookup]
          · have z : (kOf k == a) = false := beq_eq_false_iff_ne.mpr fun z => hn.1 (by
              show a ∈ l.map (·.1)
              rw [← z]
              exact List.mem_map.mpr ⟨(kOf k, x), h, rfl⟩)
            simp only [List.lookup, z]
            exact ih hn.2 h
      exact this ndl hx
    rw [el, ea]
    exact h
end
end WM
set_option maxHeartbeats 1000000
namespace WM
open PySem PySem.Spec PyProof.Rows L2
section
variable {X : Cx} {B : Bs}
def eqW (S : Store) (x y : D) : Option Bool := match deref S x, deref S y with
  | .dct false a, .dct false b => guard ((∀ p ∈ a, plain 8 p.2 = true) ∧ ∀ p ∈ b, plain 8 p.2 = true) (eqDc a b)
  | x, y => eqF x y
def neW (S : Store) (x y : D) : Option Bool := (eqF (deref S x) (deref S y)).map not
theorem c_eq (hA : X.A.units + 9 < cLine) : OpR X (compareOp .Eq) (rC X.K B eqW) := by
  intro pins s σ H v u v' u' Q I rv ru h
  obtain ⟨S, F, ρ, x, y, b, R, rx, ry, e, q⟩ := h
  unfold eqW at e
  split at e
  · rename_i k1 k2 h1 h2
    rw [guard_some] at e
    obtain ⟨⟨p1, p2⟩, rfl⟩ := e
    obtain ⟨a, rfl, ha⟩ := rep_dct R rx h1
    obtain ⟨b, rfl, hb⟩ := rep_dct R ry h2
    cases rv; cases ru
    exact dict_eq_ok hA I R ha hb p1 p2 ⟨.bl _, H, I, rfl, q⟩
  · exact (eqF_ok (by omega) I R rx ry rv ru e).1 X.prog X.w X.xe _ ⟨.bl _, H, I, rfl, q⟩
theorem c_ne (hA : X.A.units + 9 < cLine) : OpR X (compareOp .NotEq) (rC X.K B neW) := by
  intro pins s σ H v u v' u' Q I rv ru h
  obtain ⟨S, F, ρ, x, y, b, R, rx, ry, e, q⟩ := h
  unfold neW at e
  rw [Option.map_eq_some_iff] at e
  obtain ⟨b, e, rfl⟩ := e
  exact (eqF_ok (by omega) I R rx ry rv ru e).2 X.prog X.w X.xe _ ⟨.bl _, H, I, rfl, q⟩
/-- an order of numbers, of texts -/
def ordW (o : Cm) (S : Store) (x y : D) : Option Bool := match x, y with
  | .int a, .int b => ordI o a b
  | .str a, .str b => ordS o a b
  | _, _ => none
theorem c_ord {op : CmpOp} {o : Cm} {f : Int → Int → Bool} {g : Str → Str → Bool} (hi : OpR X (compareOp op) (fun x y H Q => ∃ i j, x = .int i ∧ y = .int j ∧ Q (.bl (f i j)) H)) (hs : OpR X (compareOp op) (fun x y H Q => ∃ i j, x = .str i ∧ y = .str j ∧ Q (.bl (g i j)) H))
    (ei : ∀ i j, ordI o i j = some (f i j)) (es : ∀ i j, ordS o i j = some (g i j)) : OpR X (compareOp op) (rC X.K B (ordW o)) := by
  intro pins s σ H v u v' u' Q I rv ru h
  obtain ⟨S, F, ρ, x, y, b, R, rx, ry, e, q⟩ := h
  unfold ordW at e
  split at e
  · rename_i i j
    rw [ei] at e; cases e
    cases (show v = .int i from rx); cases (show u = .int j from ry)
    exact hi pins s σ H _ _ v' u' Q I rv ru ⟨i, j, rfl, rfl, q⟩
  · rename_i i j
    rw [es] at e; cases e
    cases (show v = .str i from rx); cases (show u = .str j from ry)
    exact hs pins s σ H _ _ v' u' Q I rv ru ⟨i, j, rfl, rfl, q⟩
  · cases e
theorem c_lt : OpR X (compareOp .Lt) (rC X.K B (ordW .lt)) := c_ord (op_lt) op_lt_str (fun _ _ => rfl) fun _ _ => rfl
/-- x in y -/
def inW (S : Store) (x y : D) : Option Bool := match deref S y with
  | .lst ds => inL (deref S x) ds
  | .tup ds => inL (deref S x) ds
  | .dct t kvs => guard (keyOk t x = true) ((kvs.lookup x).isSome)
  | .str b => match x with
    | .str a => some (!(Builtin.Str.occurrences b a 0 b.length 1).isEmpty)
    | _ => none
  | _ => none
def ninW (S : Store) (x y : D) : Option Bool := (inW S x y).map not
end
end WM
set_option maxHeartbeats 1000000
namespace WM
open PySem PySem.Spec PyProof.Rows L2
section
variable {X : Cx} {xi : Xi} {B : Bs} {W : WX}
def wVar (i : Nat) : WE := fun σ S Q _ => ∃ d, σ[i]? = some (some d) ∧ Q d S
theorem e_var {i : Nat} {e : Expr} (h : PE X e (tVar i)) (o : offX xi i = true := by rfl) : PE X e (tE X.K xi B W (wVar i)) :=
  h.weak fun σ H Q ⟨env, S, F, ρ, Qn, Qx, R, E, ⟨d, h1, h2⟩, P, PX⟩ => by
    obtain ⟨v, h3, h4⟩ := E.2 i d h1
    exact ⟨v, h3, P d S v H F ρ h2 R Ext.refl ((SlotR.off o).mp h4)⟩
def wLit (d : D) : WE := fun _ S Q _ => Q d S
theorem e_lit {v : V} {d : D} {e : Expr} (h : PE X e (tC v)) (r : ∀ F ρ, Rep X.K F ρ v d) : PE X e (tE X.K xi B W (wLit d)) :=
  h.weak fun σ H Q ⟨env, S, F, ρ, Qn, Qx, R, E, h2, P, PX⟩ => P d S v H F ρ h2 R Ext.refl (r F ρ)
theorem e_int {i : Int} {j pos} : PE X (.Constant (.int i) j pos) (tE X.K xi B W (wLit (.int i))) := e_lit pe_int fun _ _ => rfl
theorem e_str {s : Str} {j pos} : PE X (.Constant (.str s) j pos) (tE X.K xi B W (wLit (.str s))) := e_lit pe_str fun _ _ => rfl
theorem e_bl {b : Bool} {e : Expr} (h : PE X e (tC (.bl b))) : PE X e (tE X.K xi B W (wLit (.bl b))) := e_lit h fun _ _ => rfl
theorem e_non {e : Expr} (h : PE X e (tC .non)) : PE X e (tE X.K xi B W (wLit .non)) := e_lit h fun _ _ => rfl
def wNil : WL := fun _ S Q _ => Q [] S
def wCons (a : WE) (r : WL) : WL := fun σ S Q X => a σ S (fun d S1 => r σ S1 (fun ds S2 => Q (d :: ds) S2) X) X
theorem l_nil : PA X [] (tL X.K xi B W wNil) := pa_nil.weak fun σ H Q ⟨env, S, F, ρ, Qn, Qx, R, E, h2, P, PX⟩ => P [] S [] H F ρ h2 R Ext.refl True.intro
theorem l_cons {e : Expr} {es : List Expr} {a : WE} {r : WL} (ha : PE X e (tE X.K xi B W a)) (hr : PA X es (tL X.K xi B W r)) (hs : starEach (e :: es) X.env = (false, eval e X.env) :: starEach es X.env := by rfl) :
    PA X (e :: es) (tL X.K xi B W (wCons a r)) :=
  (pa_cons ha hr hs).weak fun σ H Q ⟨env, S, F, ρ, Qn, Qx, R, E, h2, P, PX⟩ => ⟨env, S, F, ρ, _, Qx, R, E, h2, fun d S1 v H1 F1 ρ1 q1 R1 e1 r1 =>
    ⟨env, S1, F1, ρ1, _, Qx, R1, E.mono e1, q1, fun ds S2 vs H2 F2 ρ2 q2 R2 e2 r2 => P _ S2 _ H2 F2 ρ2 q2 R2 (e1.trans e2) ⟨r1.mono e2, r2⟩, PX.ext e1⟩, PX⟩
def wTup (w : WL) : WE := fun σ S Q X => w σ S (fun ds S1 => ds.length ≤ sizeLine ∧ Q (.tup ds) S1) X
theorem e_tup {es : List Expr} {x1 pos} {w : WL} (h : PA X es (tL X.K xi B W w)) : PE X (.Tuple es x1 pos) (tE X.K xi B W (wTup w)) :=
  (pe_tup h).weak fun σ H Q ⟨env, S, F, ρ, Qn, Qx, R, E, h2, P, PX⟩ => ⟨env, S, F, ρ, _, Qx, R, E, h2, fun ds S1 vs H1 F1 ρ1 ⟨l, q1⟩ R1 e1 r1 => ⟨by rw [r1.length]; exact l, fun p hp => by
    obtain ⟨R2, e2⟩ := R1.alloc (ho := .tup vs) hp
    exact P _ S1 _ _ _ _ q1 R2 (e1.trans e2) ⟨p, vs, rfl, upd_same, r1.mono e2⟩⟩, PX⟩
def tN (K : PySem.W.Frag) (xi : Xi) (B : Bs) (W : WX) (w : WL) : TE := fun σ H Q => ∃ env S F ρ Ql Qx, Rel K B S F ρ H ∧ EnvR K xi F ρ env σ ∧ w env S Ql Qx ∧
  (∀ es S' H' F' ρ' ys l, Ql es S' → Rel K B S' F' ρ' H' → Ext F ρ F' ρ' → RepL K F' ρ' ys es → H' l = none → Q (.ref l) (upd H' l (.lst ys))) ∧ PostX K B W F ρ Qx σ
def wFz (w : WL) : WE := fun σ S Q X => w σ S (fun ds S1 => Q (.lst ds) S1) X
def wCell (w : WL) : WE := fun σ S Q X => w σ S (fun ds S1 => Q (.cell S1.length) (S1 ++ [.lst ds])) X
theorem e_fz {e : Expr} {w : WL} (h : PE X e (tN X.K xi B W w)) : PE X e (tE X.K xi B W (wFz w)) :=
  h.weak fun σ H Q ⟨env, S, F, ρ, Qn, Qx, R, E, h2, P, PX⟩ => ⟨env, S, F, ρ, _, Qx, R, E, h2, fun es S1 H1 F1 ρ1 ys l q1 R1 e1 r1 hl => by
    obtain ⟨R2, e2⟩ := R1.alloc (ho := .lst ys) hl
    exact P _ S1 _ _ _ _ q1 R2 (e1.trans e2) ⟨l, ys, rfl, upd_same, r1.mono e2⟩, PX⟩
theorem e_cell {e : Expr} {w : WL} (h : PE X e (tN X.K xi B W w)) : PE X e (tE X.K xi B W (wCell w)) :=
  h.weak fun σ H Q ⟨env, S, F, ρ, Qn, Qx, R, E, h2, P, PX⟩ => ⟨env, S, F, ρ, _, Qx, R, E, h2, fun es S1 H1 F1 ρ1 ys l q1 R1 e1 r1 hl => by
    have eC : Ext F1 ρ1 F1 (ρ1 ++ [l]) := ⟨fun _ _ z => .inl z, fun k a z => by rw [List.getElem?_append_left (List.getElem?_eq_some_iff.mp z).1]; exact z⟩
    obtain ⟨R2, e2⟩ := R1.allocC (ho := .lst ys) (o := .lst es) hl ⟨ys, upd_same, r1.mono eC⟩
    exact P _ _ _ _ _ _ q1 R2 (e1.trans e2) ⟨l, by rw [← R1.len]; simp, rfl⟩, PX⟩
def wLst (w : WL) : WL := fun σ S Q X => w σ S (fun ds S1 => ds.length ≤ sizeLine ∧ Q ds S1) X
theorem n_lst {es : List Expr} {pos} {w : WL} (h : PA X es (tL X.K xi B W w)) : PE X (.List es pos) (tN X.K xi B W (wLst w)) :=
  (pe_lst h).weak fun σ H Q ⟨env, S, F, ρ, Qn, Qx, R, E, h2, P, PX⟩ => ⟨env, S, F, ρ, _, Qx, R, E, h2, fun ds S1 vs H1 F1 ρ1 ⟨l, q1⟩ R1 e1 r1 => ⟨by rw [r1.length]; exact l, fun p hp =>
    P _ S1 _ _ _ _ _ q1 R1 e1 r1 hp⟩, PX⟩
abbrev opA : Bin → Operator
  | .add => .Add
  | .sub => .Sub
  | .mul => .Mult
  | .fdiv => .FloorDiv
  | .mod => .Mod
  | .pow => .Pow
def wOp (f : Store → D → D → Option D) (a b : WE) : WE := fun σ S Q X => a σ S (fun x S1 => b σ S1 (fun y S2 => ∃ d, f S2 x y = some d ∧ Q d S2) X) X
theorem e_op {f : Store → D → D → Option D} {op : Operator} {a b : Expr} {pos} {wa wb : WE} (ho : OpR X (binaryOp op) (r2 X.K B f)) (ha : PE X a (tE X.K xi B W wa)) (hb : PE X b (tE X.K xi B W wb)) : PE X (.BinOp a op b pos) (tE X.K xi B W (wOp f wa wb)) :=
  (pe_op ho ha hb).weak fun σ H Q ⟨env, S, F, ρ, Qn, Qx, R, E, h2, P, PX⟩ => ⟨env, S, F, ρ, _, Qx, R, E, h2, fun x S1 v H1 F1 ρ1 q1 R1 e1 r1 =>
    ⟨env, S1, F1, ρ1, _, Qx, R1, E.mono e1, q1, fun y S2 u H2 F2 ρ2 ⟨d, q2, q3⟩ R2 e2 r2 => ⟨S2, F2, ρ2, x, y, d, R2, r1.mono e2, r2, q2, fun w H3 F3 ρ3 R3 e3 r3 => P _ _ _ _ _ _ q3 R3 ((e1.trans e2).trans e3) r3⟩, PX.ext e1⟩, PX⟩
theorem e_bin (o : Bin) {a b : Expr} {pos} {wa wb : WE} (ha : PE X a (tE X.K xi B W wa)) (hb : PE X b (tE X.K xi B W wb)) : PE X (.BinOp a (opA o) b pos) (tE X.K xi B W (wOp (binop o) wa wb)) :=
  e_op (match o with | .add => bin_ok .add | .sub => bin_ok .sub | .mul => bin_ok .mul | .fdiv => bin_ok .fdiv | .mod => bin_ok .mod | .pow => bin_ok .pow) ha hb
def wNeg (a : WE) : WE := fun σ S Q X => a σ S (fun x S1 => ∃ i, x = .int i ∧ Q (.int (-i)) S1) X
theorem e_neg {a : Expr} {pos} {wa : WE} (ha : PE X a (tE X.K xi B W wa)) : PE X (.UnaryOp .USub a pos) (tE X.K xi B W (wNeg wa)) :=
  (pe_un un_neg ha).weak fun σ H Q ⟨env, S, F, ρ, Qn, Qx, R, E, h2, P, PX⟩ => ⟨env, S, F, ρ, _, Qx, R, E, h2, fun x S1 v H1 F1 ρ1 ⟨i, q1, q2⟩ R1 e1 r1 => by
    subst q1; exact ⟨i, r1, P _ _ _ _ _ _ q2 R1 e1 rfl⟩, PX⟩
def wCm (f : Store → D → D → Option Bool) (a b : WE) : WT := fun σ S Q X => a σ S (fun x S1 => b σ S1 (fun y S2 => ∃ k, f S2 x y = some k ∧ Q k S2) X) X
theorem t_cm {f : Store → D → D → Option Bool} {op : CmpOp} {a b : Expr} {pos} {wa wb : WE} (ho : OpR X (compareOp op) (rC X.K B f)) (ha : PE X a (tE X.K xi B W wa)) (hb : PE X b (tE X.K xi B W wb)) (hm : behindInMarks op b = false) :
    PT X (.Compare a [op] [b] pos) (tT X.K xi B W (wCm f wa wb)) :=
  (pt_cmpR ho ha hb hm).weak fun σ H Q ⟨env, S, F, ρ, Qn, Qx, R, E, h2, P, PX⟩ => ⟨env, S, F, ρ, _, Qx, R, E, h2, fun x S1 v H1 F1 ρ1 q1 R1 e1 r1 =>
    ⟨env, S1, F1, ρ1, _, Qx, R1, E.mono e1, q1, fun y S2 u H2 F2 ρ2 ⟨k, q2, q3⟩ R2 e2 r2 => ⟨S2, F2, ρ2, x, y, k, R2, r1.mono e2, r2, q2, k, rfl, P _ _ _ _ _ q3 R2 (e1.trans e2)⟩, PX.ext e1⟩, PX⟩
def wBl (t : WT) : WE := fun σ S Q X => t σ S (fun b S1 => Q (.bl b) S1) X
theorem e_cm {f : Store → D → D → Option Bool} {op : CmpOp} {a b : Expr} {pos} {wa wb : WE} (ho : OpR X (compareOp op) (rC X.K B f)) (ha : PE X a (tE X.K xi B W wa)) (hb : PE X b (tE X.K xi B W wb)) (hm : behindInMarks op b = false) :
    PE X (.Compare a [op] [b] pos) (tE X.K xi B W (wBl (wCm f wa wb))) :=
  (pe_cmpR ho ha hb hm).weak fun σ H Q ⟨env, S, F, ρ, Qn, Qx, R, E, h2, P, PX⟩ => ⟨env, S, F, ρ, _, Qx, R, E, h2, fun x S1 v H1 F1 ρ1 q1 R1 e1 r1 =>
    ⟨env, S1, F1, ρ1, _, Qx, R1, E.mono e1, q1, fun y S2 u H2 F2 ρ2 ⟨k, q2, q3⟩ R2 e2 r2 => ⟨S2, F2, ρ2, x, y, k, R2, r1.mono e2, r2, q2, P _ _ _ _ _ _ q3 R2 (e1.trans e2) rfl⟩, PX.ext e1⟩, PX⟩
def wChain (f g : Store → D → D → Option Bool) (a b c : WE) : WT := fun σ S Q X => a σ S (fun x S1 => b σ S1 (fun y S2 => ∃ k, f S2 x y = some k ∧ if k = true then c σ S2 (fun z S3 => ∃ k2, g S3 y z = some k2 ∧ Q k2 S3) X else Q false S2) X) X
end
end WM
set_option maxHeartbeats 1000000
namespace WM
open PySem PySem.Spec PyProof.Rows L2
theorem _root_.L2.PW.weak {X : Cx} {e : Expr} {t t' : TT} (h : PW X e t) (k : ∀ σ H Q, t' σ H Q → t σ H Q) : PW X e t' := ⟨fun wh pins s σ H Q I q => h.run wh pins s σ H Q I (k σ H Q q)⟩
section
variable {X : Cx} {xi : Xi} {B : Bs} {W : WX}
def wNot (t : WT) : WT := fun σ S Q X => t σ S (fun b S1 => Q (!b) S1) X
def wAnd (t u : WT) : WT := fun σ S Q X => t σ S (fun b S1 => if b = true then u σ S1 Q X else Q false S1) X
def wOr (t u : WT) : WT := fun σ S Q X => t σ S (fun b S1 => if b = true then Q true S1 else u σ S1 Q X) X
theorem t_not {a : Expr} {pos} {t : WT} (h : PT X a (tT X.K xi B W t)) : PT X (.UnaryOp .Not a pos) (tT X.K xi B W (wNot t)) :=
  (pt_not h).weak fun σ H Q ⟨env, S, F, ρ, Qn, Qx, R, E, h2, P, PX⟩ => ⟨env, S, F, ρ, _, Qx, R, E, h2, fun b S1 H1 F1 ρ1 q R1 e1 => P _ _ _ _ _ q R1 e1, PX⟩
theorem p_and1 {a : Expr} {pos} {t : WT} (h : PT X a (tT X.K xi B W t)) : PW X (.BoolOp .And [a] pos) (tT X.K xi B W t) := pw_and1 h
theorem p_or1 {a : Expr} {pos} {t : WT} (h : PT X a (tT X.K xi B W t)) : PW X (.BoolOp .Or [a] pos) (tT X.K xi B W t) := pw_or1 h
theorem p_and {a b : Expr} {rest : List Expr} {pos} {t u : WT} (h : PT X a (tT X.K xi B W t)) (h' : PW X (.BoolOp .And (b :: rest) pos) (tT X.K xi B W u)) : PW X (.BoolOp .And (a :: b :: rest) pos) (tT X.K xi B W (wAnd t u)) :=
  (pw_and h h').weak fun σ H Q ⟨env, S, F, ρ, Qn, Qx, R, E, h2, P, PX⟩ => ⟨env, S, F, ρ, _, Qx, R, E, h2, fun b S1 H1 F1 ρ1 q R1 e1 => by
    cases b with
    | true => rw [if_pos rfl] at q ⊢; exact ⟨env, S1, F1, ρ1, _, Qx, R1, E.mono e1, q, P.ext e1, PX.ext e1⟩
    | false => rw [if_neg Bool.false_ne_true] at q ⊢; exact P _ _ _ _ _ q R1 e1, PX⟩
theorem p_or {a b : Expr} {rest : List Expr} {pos} {t u : WT} (h : PT X a (tT X.K xi B W t)) (h' : PW X (.BoolOp .Or (b :: rest) pos) (tT X.K xi B W u)) : PW X (.BoolOp .Or (a :: b :: rest) pos) (tT X.K xi B W (wOr t u)) :=
  (pw_or h h').weak fun σ H Q ⟨env, S, F, ρ, Qn, Qx, R, E, h2, P, PX⟩ => ⟨env, S, F, ρ, _, Qx, R, E, h2, fun b S1 H1 F1 ρ1 q R1 e1 => by
    cases b with
    | true => rw [if_pos rfl] at q ⊢; exact P _ _ _ _ _ q R1 e1
    | false => rw [if_neg Bool.false_ne_true] at q ⊢; exact ⟨env, S1, F1, ρ1, _, Qx, R1, E.mono e1, q, P.ext e1, PX.ext e1⟩, PX⟩
/-- a truth value as a test -/
def wIs (a : WE) : WT := fun σ S Q X => a σ S (fun d S1 => ∃ b, d = .bl b ∧ Q b S1) X
theorem t_bl {e : Expr} {w : WE} (h : PE X e (tE X.K xi B W w)) (he : ∀ whole, isTrue e X.env whole = (do let v ← whole; standAt e.pos; holding [v] (truthy v)) := by intro _; rfl) : PT X e (tT X.K xi B W (wIs w)) :=
  (pt_val h he).weak fun σ H Q ⟨env, S, F, ρ, Qn, Qx, R, E, h2, P, PX⟩ => ⟨env, S, F, ρ, _, Qx, R, E, h2, fun d S1 v H1 F1 ρ1 ⟨b, q1, q2⟩ R1 e1 r1 => ⟨b, by subst q1; exact r1, P _ _ _ _ _ q2 R1 e1⟩, PX⟩
/-- any value's truth -/
def wTr (a : WE) : WT := fun σ S Q X => a σ S (fun d S1 => ∃ b, truth S1 d = some b ∧ Q b S1) X
/-- values of and, or: truth values -/
def wAndV (a b : WE) : WE := fun σ S Q X => a σ S (fun d S1 => ∃ k, d = .bl k ∧ if k = true then b σ S1 Q X else Q (.bl false) S1) X
def wOrV (a b : WE) : WE := fun σ S Q X => a σ S (fun d S1 => ∃ k, d = .bl k ∧ if k = true then Q (.bl true) S1 else b σ S1 Q X) X
def wNotV (a : WE) : WE := fun σ S Q X => a σ S (fun d S1 => ∃ k, d = .bl k ∧ Q (.bl (!k)) S1) X
def wIfe (t : WT) (a b : WE) : WE := fun σ S Q X => t σ S (fun k S1 => if k = true then a σ S1 Q X else b σ S1 Q X) X
def ixD (K : PySem.W.Frag) : R2 := fun x y H Q => ∃ a v, x = .ref a ∧ DGet H a y (some v) ∧ Q v H
theorem ix_dict (hu : X.A.units + 1 < cLine) : IxR X (ixD X.K) := by
  intro value slice pins s σ H x y v u Q I rx ry h hs
  obtain ⟨a, w, rfl, g, q⟩ := h
  cases rx
  exact tail_any (dict_typeIs I g) PySem.F.slot_dict_getitem.lookup (d_getItem hu I g ry fun w' s3 I3 rw' => ⟨w, H, I3, rw', q⟩) hs
/-- a value rule: two values in, one out, nothing new -/
theorem atI_rep {K : PySem.W.Frag} {F : Hp} {ρ : List Addr} {vs : List V} {ds : List D} {i : Int} {d : D} (r : RepL K F ρ vs ds) (h : atI ds i = some d) : ∃ v, atI vs i = some v ∧ Rep K F ρ v d := by
  unfold atI at h ⊢
  rw [r.length]
  cases e : ixN ds.length i with
  | none => rw [e] at h; cases h
  | some j => rw [e] at h; exact r.get h
theorem ix_ok (hu : X.A.units + 1 < cLine) : IxR X (r2 X.K B ixop) := by
  intro value slice pins s σ H v u v' u' Q I rx ry h hs
  obtain ⟨S, F, ρ, x, i, d, R, ra, rb, e, q⟩ := h
  unfold ixop at e
  split at e
  · rename_i ds k h1
    obtain ⟨a, vs, rfl, hl, rl⟩ := rep_lst R ra h1
    obtain ⟨w, h2, h3⟩ := atI_rep rl e
    exact ix_list value slice pins s σ H _ _ v' u' Q I rx ry ⟨a, vs, k, w, rfl, rb, SqL.of hl, h2, q _ _ _ _ R Ext.refl h3⟩ hs
  · rename_i ds k h1
    obtain ⟨a, vs, rfl, hl, rl⟩ := rep_tup R ra h1
    obtain ⟨w, h2, h3⟩ := atI_rep rl e
    exact ix_tup value slice pins s σ H _ _ v' u' Q I rx ry ⟨a, vs, k, w, rfl, rb, SqT.of hl, h2, q _ _ _ _ R Ext.refl h3⟩ hs
  · rename_i z k h1
    obtain rfl := rep_str ra h1
    split at e
    · rename_i hz
      rw [Option.map_eq_some_iff] at e
      obtain ⟨c, e1, rfl⟩ := e
      exact ix_str value slice pins s σ H _ _ v' u' Q I rx ry ⟨z, k, c, rfl, rb, hz, e1, q _ _ _ _ R Ext.refl rfl⟩ hs
    · cases e
  · rename_i t kvs h1
    split at e
    · rename_i hk
      obtain ⟨a, rfl, ha⟩ := rep_dct R ra h1
      obtain ⟨o, g, lk⟩ := dget R ha hk rb
      rw [e] at lk
      cases o with
      | none => exact lk.elim
      | some w => exact ix_dict hu value slice pins s σ H _ _ v' u' Q I rx ry ⟨a, w, rfl, g, q _ _ _ _ R Ext.refl lk⟩ hs
    · cases e
  · cases e
theorem e_ix {a b : Expr} {pos} {wa wb : WE} (hu : X.A.units + 1 < cLine) (ha : PE X a (tE X.K xi B W wa)) (hb : PE X b (tE X.K xi B W wb)) (hs : PlainIx b := by exact fun _ _ => rfl) : PE X (.Subscript a b pos) (tE X.K xi B W (wOp ixop wa wb)) :=
  (pe_ix (ix_ok (B := B) hu) ha hb hs).weak fun σ H Q ⟨env, S, F, ρ, Qn, Qx, R, E, h2, P, PX⟩ => ⟨env, S, F, ρ, _, Qx, R, E, h2, fun x S1 v H1 F1 ρ1 q1 R1 e1 r1 =>
    ⟨env, S1, F1, ρ1, _, Qx, R1, E.mono e1, q1, fun y S2 u H2 F2 ρ2 ⟨d, q2, q3⟩ R2 e2 r2 => ⟨S2, F2, ρ2, x, y, d, R2, r1.mono e2, r2, q2, fun w H3 F3 ρ3 R3 e3 r3 => P _ _ _ _ _ _ q3 R3 ((e1.trans e2).trans e3) r3⟩, PX.ext e1⟩, PX⟩
end
end WM
set_option maxHeartbeats 1000000
namespace WM
open PySem PySem.Spec PyProof.Rows L2
section
variable {X : Cx} {xi : Xi} {B : Bs} {W : WX}
abbrev WO := Env → Store → (Option Int → Store → Prop) → QX → Prop
def tO (K : PySem.W.Frag) (xi : Xi) (B : Bs) (W : WX) (w : WO) : TO := fun σ H Q => ∃ env S F ρ Qo Qx, Rel K B S F ρ H ∧ EnvR K xi F ρ env σ ∧ w env S Qo Qx ∧ (∀ o S' H' F' ρ', Qo o S' → Rel K B S' F' ρ' H' → Ext F ρ F' ρ' → Q o H') ∧ PostX K B W F ρ Qx σ
theorem _root_.L2.PO.weak {e : Option Expr} {t t' : TO} (h : PO X e t) (k : ∀ σ H Q, t' σ H Q → t σ H Q) : PO X e t' := ⟨fun pins s σ H Q I q => h.run pins s σ H Q I (k σ H Q q)⟩
def wNo : WO := fun _ S Q _ => Q none S
def wPt (a : WE) : WO := fun σ S Q X => a σ S (fun d S1 => ∃ i, d = .int i ∧ Q (some i) S1) X
theorem o_no : PO X none (tO X.K xi B W wNo) := po_none.weak fun σ H Q ⟨env, S, F, ρ, Qn, Qx, R, E, h2, P, PX⟩ => P _ _ _ _ _ h2 R Ext.refl
theorem o_pt {e : Expr} {a : WE} (h : PE X e (tE X.K xi B W a)) : PO X (some e) (tO X.K xi B W (wPt a)) :=
  (po_some h).weak fun σ H Q ⟨env, S, F, ρ, Qn, Qx, R, E, h2, P, PX⟩ => ⟨env, S, F, ρ, _, Qx, R, E, h2, fun d S1 v H1 F1 ρ1 ⟨i, q1, q2⟩ R1 e1 r1 => ⟨i, by subst q1; exact r1, P _ _ _ _ _ q2 R1 e1⟩, PX⟩
def slV (S : Store) (x : D) (lo hi : Option Int) : Option D := match deref S x with
  | .tup ds => some (.tup (cutL ds lo hi))
  | .str s => guard (s.length ≤ sizeLine) (.str (cutS s lo hi))
  | _ => none
def wSl (a : WE) (lo hi : WO) : WE := fun σ S Q X => a σ S (fun x S1 => lo σ S1 (fun l S2 => hi σ S2 (fun u S3 => ∃ d, slV S3 x l u = some d ∧ Q d S3) X) X) X
def wSlL (a : WE) (lo hi : WO) : WL := fun σ S Q X => a σ S (fun x S1 => lo σ S1 (fun l S2 => hi σ S2 (fun u S3 => ∃ ds, getL S3 x = some ds ∧ Q (cutL ds l u) S3) X) X) X
theorem getL_iff {S : Store} {x : D} {ds : List D} : getL S x = some ds ↔ deref S x = .lst ds := by
  unfold getL
  cases deref S x <;> simp
theorem e_sl {e : Expr} {lo hi : Option Expr} {p2 pos} {a : WE} {l u : WO} (he : PE X e (tE X.K xi B W a)) (hl : PO X lo (tO X.K xi B W l)) (hu : PO X hi (tO X.K xi B W u)) : PE X (.Subscript e (.Slice lo hi none p2) pos) (tE X.K xi B W (wSl a l u)) :=
  (pe_slice (sl_str.or sl_tupA) he hl hu).weak fun σ H Q ⟨env, S, F, ρ, Qn, Qx, R, E, h2, P, PX⟩ => ⟨env, S, F, ρ, _, Qx, R, E, h2, fun x S1 v H1 F1 ρ1 q1 R1 e1 r1 => ⟨env, S1, F1, ρ1, _, Qx, R1, E.mono e1, q1,
    fun o1 S2 H2 F2 ρ2 q2 R2 e2 => ⟨env, S2, F2, ρ2, _, Qx, R2, E.mono (e1.trans e2), q2, fun o2 S3 H3 F3 ρ3 ⟨d, q3, q4⟩ R3 e3 => (by
      have r3 := r1.mono (e2.trans e3)
      have e4 := (e1.trans e2).trans e3
      unfold slV at q3
      split at q3
      · rename_i ds h1
        cases q3
        obtain ⟨t, vs, rfl, ht, rt⟩ := rep_tup R3 r3 h1
        refine .inr ⟨t, vs, rfl, SqT.of ht, fun hc => ?_, fun hc p hp => ?_⟩
        · refine P _ _ _ _ _ _ q4 R3 e4 ?_
          have h3 := r3
          cases x with
          | tup k =>
            simp [deref] at h1; subst h1
            have : cutL k o1 o2 = k := by
              unfold cutL
              rw [← rt.length, hc.1, hc.2, rt.length]; simp
            rw [this]; exact h3
          | cell k => simp only [deref] at h1; split at h1 <;> cases h1
          | _ => cases h1
        · obtain ⟨R4, e5⟩ := R3.alloc (ho := .tup (cutV vs o1 o2)) hp
          exact P _ _ _ _ _ _ q4 R4 (e4.trans e5) ⟨p, _, rfl, upd_same, (rt.cut o1 o2).mono e5⟩
      · rename_i z h1
        rw [guard_some] at q3
        obtain ⟨hz, rfl⟩ := q3
        exact .inl ⟨z, rep_str r3 h1, hz, P _ _ _ _ _ _ q4 R3 e4 rfl⟩
      · cases q3), PX.ext (e1.trans e2)⟩, PX.ext e1⟩, PX⟩
def truthL (S : Store) (x : D) : Option Bool := match deref S x with
  | .dct _ _ => none
  | _ => truth S x
def wTrL (a : WE) : WT := fun σ S Q X => a σ S (fun d S1 => ∃ b, truthL S1 d = some b ∧ Q b S1) X
/-- values in, a value out -/
def rB (K : PySem.W.Frag) (B : Bs) (f : Store → List D → Option D) : List V → Hp → VK → Prop := fun vs H Q => ∃ S F ρ ds d, Rel K B S F ρ H ∧ RepL K F ρ vs ds ∧ f S ds = some d ∧ ∀ w H' F' ρ', Rel K B S F' ρ' H' → Ext F ρ F' ρ' → Rep K F' ρ' w d → Q w H'
/-- values in, a new list out -/
def rBN (K : PySem.W.Frag) (B : Bs) (f : Store → List D → Option (List D)) : List V → Hp → VK → Prop := fun vs H Q => ∃ S F ρ ds es, Rel K B S F ρ H ∧ RepL K F ρ vs ds ∧ f S ds = some es ∧ ∀ ys l, RepL K F ρ ys es → H l = none → Q (.ref l) (upd H l (.lst ys))
def wB (f : Store → List D → Option D) (w : WL) : WE := fun σ S Q X => w σ S (fun ds S1 => ∃ d, f S1 ds = some d ∧ Q d S1) X
def wBN (f : Store → List D → Option (List D)) (w : WL) : WL := fun σ S Q X => w σ S (fun ds S1 => ∃ es, f S1 ds = some es ∧ Q es S1) X
theorem e_call {f : Store → List D → Option D} {e : Expr} {w : WL} (h : PE X e (tCB (rB X.K B f) (tL X.K xi B W w))) : PE X e (tE X.K xi B W (wB f w)) :=
  h.weak fun σ H Q ⟨env, S, F, ρ, Qn, Qx, R, E, h2, P, PX⟩ => ⟨env, S, F, ρ, _, Qx, R, E, h2, fun ds S1 vs H1 F1 ρ1 ⟨d, q1, q2⟩ R1 e1 r1 => ⟨S1, F1, ρ1, ds, d, R1, r1, q1, fun w H' F' ρ' R' e' r' => P _ _ _ _ _ _ q2 R' (e1.trans e') r'⟩, PX⟩
end
end WM
set_option maxHeartbeats 1000000
namespace WM
open PySem PySem.Spec PyProof.Rows L2
section
variable {X : Cx} {B : Bs} {K : PySem.W.Frag} {F H : Hp} {ρ : List Addr} {S : Store}
theorem repL1 {vs : List V} {d : D} (r : RepL K F ρ vs [d]) : ∃ v, vs = [v] ∧ Rep K F ρ v d := by
  cases vs with
  | nil => exact r.elim
  | cons v vs => cases vs with
    | nil => exact ⟨v, rfl, r.1⟩
    | cons _ _ => exact r.2.elim
theorem repL2 {vs : List V} {d e : D} (r : RepL K F ρ vs [d, e]) : ∃ v u, vs = [v, u] ∧ Rep K F ρ v d ∧ Rep K F ρ u e := by
  cases vs with
  | nil => exact r.elim
  | cons v vs =>
    obtain ⟨u, rfl, h⟩ := repL1 r.2
    exact ⟨v, u, rfl, r.1, h⟩
def fLen (S : Store) : List D → Option D
  | [x] => match deref S x with
    | .lst ds => some (.int ds.length)
    | .tup ds => some (.int ds.length)
    | .dct false kvs => some (.int kvs.length)
    | .str s => guard (s.length ≤ sizeLine) (.int s.length)
    | _ => none
  | _ => none
theorem repK_len : ∀ {ps : List (Key × V)} {kvs : List (D × D)}, RepK K F ρ ps kvs → ps.length = kvs.length
  | [], [], _ => rfl
  | (_, _) :: _, (_, _) :: _, ⟨_, _, h⟩ => by simp [repK_len h]
  | [], _ :: _, h => h.elim
  | _ :: _, [], h => h.elim
theorem b_len : CallR X (.builtin "len") (rB X.K B fLen) := by
  intro pins s σ H vs us Q I rv h
  obtain ⟨S, F, ρ, ds, d, R, r, e, q⟩ := h
  unfold fLen at e
  split at e
  · rename_i x
    obtain ⟨v, rfl, rx⟩ := repL1 r
    split at e
    · rename_i es h1
      cases e
      obtain ⟨a, xs, rfl, ha, rr⟩ := rep_lst R rx h1
      refine call_len_seq pins s σ H _ us Q I rv ⟨a, xs, rfl, .inl (SqL.of ha), ?_⟩
      rw [rr.length]
      exact q _ _ _ _ R Ext.refl rfl
    · rename_i es h1
      cases e
      obtain ⟨a, xs, rfl, ha, rr⟩ := rep_tup R rx h1
      refine call_len_seq pins s σ H _ us Q I rv ⟨a, xs, rfl, .inr (SqT.of ha), ?_⟩
      rw [rr.length]
      exact q _ _ _ _ R Ext.refl rfl
    · rename_i kvs h1
      cases e
      obtain ⟨a, rfl, ps, hp, rr⟩ := rep_dct R rx h1
      obtain ⟨u, rfl, ru⟩ := vals1 rv
      cases ru
      refine d_len I hp fun t s' I' => ⟨.int ps.length, H, I', ⟨t, rfl⟩, ?_⟩
      rw [repK_len rr]
      exact q _ _ _ _ R Ext.refl rfl
    · rename_i z h1
      rw [guard_some] at e
      obtain ⟨hz, rfl⟩ := e
      rw [rep_str rx h1] at rv
      exact call_len_str pins s σ H _ us Q I rv ⟨z, rfl, hz, q _ _ _ _ R Ext.refl rfl⟩
    · cases e
  · cases e
def fStr (S : Store) : List D → Option D
  | [.int i] => guard (i.natAbs.log2 < 1920) (.str (toString i))
  | [.str s] => some (.str s)
  | _ => none
theorem b_str : CallR X (.type "str") (rB X.K B fStr) := by
  intro pins s σ H vs us Q I rv h
  obtain ⟨S, F, ρ, ds, d, R, r, e, q⟩ := h
  unfold fStr at e
  split at e
  · rw [guard_some] at e
    obtain ⟨hz, rfl⟩ := e
    obtain ⟨v, rfl, rx⟩ := repL1 r
    exact call_str_int pins s σ H _ us Q I rv ⟨_, by rw [show v = _ from rx], hz, q _ _ _ _ R Ext.refl rfl⟩
  · cases e
    obtain ⟨v, rfl, rx⟩ := repL1 r
    exact SkE.call_str_str pins s σ H _ us Q I rv ⟨_, by rw [show v = _ from rx], q _ _ _ _ R Ext.refl rfl⟩
  · cases e
def fList (S : Store) : List D → Option (List D)
  | [x] => getSq S x
  | _ => none
theorem b_list : CallR X (.type "list") (rBN X.K B fList) := by
  intro pins s σ H vs us Q I rv h
  obtain ⟨S, F, ρ, ds, d, R, r, e, q⟩ := h
  unfold fList at e
  split at e
  · obtain ⟨v, rfl, rx⟩ := repL1 r
    obtain ⟨a, xs, rfl, ha, rr⟩ := rep_seq R rx e
    exact call_list_of pins s σ H _ us Q I rv ⟨a, xs, rfl, ha, fun l hl => q _ _ rr hl⟩
  · cases e
end
end WM
set_option maxHeartbeats 1000000
namespace WM
open PySem PySem.Spec PyProof.Rows L2
structure Kt where
  nx : Env → Store → Prop
  rt : QN
  bk : Env → Store → Prop
  ct : Env → Store → Prop
  ex : String → List (String × D) → Env → Store → Prop
abbrev WS := Env → Store → Kt → Prop
structure PostK (K : PySem.W.Frag) (xi : Xi) (B : Bs) (W : WX) (F : Hp) (ρ : List Addr) (k : Kt) (D : Ends) : Prop where
  nx : ∀ env S σ H F' ρ', k.nx env S → Rel K B S F' ρ' H → Ext F ρ F' ρ' → EnvR K xi F' ρ' env σ → D.nx σ H
  rt : ∀ d S v H F' ρ', k.rt d S → Rel K B S F' ρ' H → Ext F ρ F' ρ' → Rep K F' ρ' v d → D.rt v H
  bk : ∀ env S σ H F' ρ', k.bk env S → Rel K B S F' ρ' H → Ext F ρ F' ρ' → EnvR K xi F' ρ' env σ → D.bk σ H
  ct : ∀ env S σ H F' ρ', k.ct env S → Rel K B S F' ρ' H → Ext F ρ F' ρ' → EnvR K xi F' ρ' env σ → D.ct σ H
  ex : ∀ c fs env S dxo σ H F' ρ', k.ex c fs env S → Rel K B S F' ρ' H → Ext F ρ F' ρ' → EnvR K xi F' ρ' env σ → ExcR K F' ρ' dxo fs → W (.ref (He.ga K c)) dxo σ H
def tS (K : PySem.W.Frag) (xi : Xi) (B : Bs) (W : WX) (w : WS) : TS := fun D σ H => ∃ env S F ρ k, Rel K B S F ρ H ∧ EnvR K xi F ρ env σ ∧ w env S k ∧ PostK K xi B W F ρ k D
section
variable {K : PySem.W.Frag} {xi : Xi} {B : Bs} {W : WX} {F F1 : Hp} {ρ ρ1 : List Addr} {k : Kt} {D : Ends} {env : Env} {σ : L2.St}
theorem PostK.ext (h : PostK K xi B W F ρ k D) (e : Ext F ρ F1 ρ1) : PostK K xi B W F1 ρ1 k D :=
  ⟨fun env S σ H F' ρ' q r e2 x => h.nx env S σ H F' ρ' q r (e.trans e2) x, fun d S v H F' ρ' q r e2 x => h.rt d S v H F' ρ' q r (e.trans e2) x, fun env S σ H F' ρ' q r e2 x => h.bk env S σ H F' ρ' q r (e.trans e2) x,
    fun env S σ H F' ρ' q r e2 x => h.ct env S σ H F' ρ' q r (e.trans e2) x, fun c fs env S dxo σ H F' ρ' q r e2 x y => h.ex c fs env S dxo σ H F' ρ' q r (e.trans e2) x y⟩
theorem PostK.px (h : PostK K xi B W F ρ k D) (E : EnvR K xi F ρ env σ) : PostX K B W F ρ (fun c fs S => k.ex c fs env S) σ :=
  fun c fs S dxo H' F' ρ' q r e x => h.ex c fs env S dxo σ H' F' ρ' q r e (E.mono e) x
end
section
variable {X : Cx} {xi : Xi} {B : Bs} {W : WX}
def wExpr (w : WE) : WS := fun σ S k => w σ S (fun _ S1 => k.nx σ S1) (fun c fs S1 => k.ex c fs σ S1)
def wRet (w : WE) : WS := fun σ S k => w σ S k.rt (fun c fs S1 => k.ex c fs σ S1)
def wRetN : WS := fun _ S k => k.rt .non S
def wPass : WS := fun σ S k => k.nx σ S
def wBrk : WS := fun σ S k => k.bk σ S
def wCont : WS := fun σ S k => k.ct σ S
theorem s_expr {e : Expr} {pos} {w : WE} (h : PE X e (tE X.K xi B W w)) (hs : swapsWith e none pos.line X.env = pure false := by rfl) : PS X (.Expr e pos) (tS X.K xi B W (wExpr w)) :=
  (ps_expr h hs).weak fun D σ H ⟨env, S, F, ρ, k, R, E, h2, P⟩ => ⟨env, S, F, ρ, _, _, R, E, h2, fun d S1 v H1 F1 ρ1 q R1 e1 r1 => P.nx _ _ _ _ _ _ q R1 e1 (E.mono e1), P.px E⟩
theorem s_ret {e : Expr} {pos} {w : WE} (h : PE X e (tE X.K xi B W w)) : PS X (.Return (some e) pos) (tS X.K xi B W (wRet w)) :=
  (ps_ret h).weak fun D σ H ⟨env, S, F, ρ, k, R, E, h2, P⟩ => ⟨env, S, F, ρ, _, _, R, E, h2, fun d S1 v H1 F1 ρ1 q R1 e1 r1 => P.rt _ _ _ _ _ _ q R1 e1 r1, P.px E⟩
def wSet (i : Nat) (w : WE) : WS := fun σ S k => w σ S (fun d S1 => k.nx (σ.set i (some d)) S1) (fun c fs S1 => k.ex c fs σ S1)
/-- target = e, the target's reading g -/
theorem s_asg {tg e : Expr} {pos} {w : WE} {g : TG} (he : PE X e (tE X.K xi B W w)) (hg : PG X tg g) {wg : D → Env → Store → (Env → Store → Prop) → QX → Prop}
    (hw : ∀ d v σ H env S F ρ Q Qn Qx, Rel X.K B S F ρ H → EnvR X.K xi F ρ env σ → Rep X.K F ρ v d → wg d env S Qn Qx → (∀ env' S' σ' H' F' ρ', Qn env' S' → Rel X.K B S' F' ρ' H' → Ext F ρ F' ρ' → EnvR X.K xi F' ρ' env' σ' → Q σ' H') → PostX X.K B W F ρ Qx σ → g v σ H Q)
    (hs : swapsWithSole [tg] e pos.line X.env = pure false := by rfl) (hsw : swappedStores [tg] e X.env = pure none := by rfl) (h1 : (assignEach [tg] X.env).map (·.2) = [assign tg X.env] := by rfl) :
    PS X (.Assign [tg] e pos) (tS X.K xi B W (fun σ S k => w σ S (fun d S1 => wg d σ S1 k.nx (fun c fs S1 => k.ex c fs σ S1)) (fun c fs S1 => k.ex c fs σ S1))) :=
  (ps_asg he hg hs hsw h1).weak fun D σ H ⟨env, S, F, ρ, k, R, E, h2, P⟩ => ⟨env, S, F, ρ, _, _, R, E, h2, fun d S1 v H1 F1 ρ1 q R1 e1 r1 =>
    hw d v σ H1 env S1 F1 ρ1 _ _ _ R1 (E.mono e1) r1 q (fun env' S' σ' H' F' ρ' q' R' e' E' => P.nx _ _ _ _ _ _ q' R' (e1.trans e') E') ((P.px E).ext e1), P.px E⟩
theorem s_set {i : Nat} {x : Str} {e : Expr} {pos p} {w : WE} (hN : X.N.Nodup) (hi : X.N[i]? = some x) (hx : Loc X.env.scope x) (he : PE X e (tE X.K xi B W w)) (o : offX xi i = true := by rfl)
    (hf : X.fn x = true ∨ X.env.scope.names.lookup x = some .local := by first | exact .inl rfl | exact .inr rfl | assumption)
    (hs : swapsWithSole [.Name x p] e pos.line X.env = pure false := by rfl) (hsw : swappedStores [.Name x p] e X.env = pure none := by rfl) (h1 : (assignEach [.Name x p] X.env).map (·.2) = [assign (.Name x p) X.env] := by rfl) :
    PS X (.Assign [.Name x p] e pos) (tS X.K xi B W (wSet i w)) :=
  s_asg (wg := fun d σ S Q _ => Q (σ.set i (some d)) S) he (pg_name (i := i) hN hi hx hf) (fun d v σ H env S F ρ Q Qn Qx R E r q P _ => P _ _ _ _ _ _ q R Ext.refl (E.set o r)) hs hsw h1
def wSeq (a b : WS) : WS := fun σ S k => a σ S { k with nx := fun σ1 S1 => b σ1 S1 k }
theorem ss_nil : PSs X [] (tS X.K xi B W wPass) := pss_nil.weak fun D σ H ⟨env, S, F, ρ, k, R, E, h2, P⟩ => P.nx _ _ _ _ _ _ h2 R Ext.refl E
theorem ss_one {s : Stmt} {w : WS} (h : PS X s (tS X.K xi B W w)) : PSs X [s] (tS X.K xi B W w) := pss_one h
theorem ss_cons {s : Stmt} {r : List Stmt} {a b : WS} (h : PS X s (tS X.K xi B W a)) (h' : PSs X r (tS X.K xi B W b)) : PSs X (s :: r) (tS X.K xi B W (wSeq a b)) :=
  (pss_cons h h').weak fun D σ H ⟨env, S, F, ρ, k, R, E, h2, P⟩ => ⟨env, S, F, ρ, _, R, E, h2, ⟨fun env1 S1 σ1 H1 F1 ρ1 q R1 e1 E1 => ⟨env1, S1, F1, ρ1, k, R1, E1, q, P.ext e1⟩, P.rt, P.bk, P.ct, P.ex⟩⟩
def wIf (t : WT) (a b : WS) : WS := fun σ S k => t σ S (fun c S1 => if c = true then a σ S1 k else b σ S1 k) (fun c fs S1 => k.ex c fs σ S1)
theorem s_if {c : Expr} {a b : List Stmt} {pos} {t : WT} {wa wb : WS} (hc : PT X c (tT X.K xi B W t)) (ha : PSs X a (tS X.K xi B W wa)) (hb : PSs X b (tS X.K xi B W wb)) : PS X (.If c a b pos) (tS X.K xi B W (wIf t wa wb)) :=
  (ps_if hc ha hb).weak fun D σ H ⟨env, S, F, ρ, k, R, E, h2, P⟩ => ⟨env, S, F, ρ, _, _, R, E, h2, fun c S1 H1 F1 ρ1 q R1 e1 => (by
    cases c with
    | true => rw [if_pos rfl] at q ⊢; exact ⟨env, S1, F1, ρ1, k, R1, E.mono e1, q, P.ext e1⟩
    | false => rw [if_neg Bool.false_ne_true] at q ⊢; exact ⟨env, S1, F1, ρ1, k, R1, E.mono e1, q, P.ext e1⟩), P.px E⟩
end
end WM
set_option maxHeartbeats 1000000
namespace WM
open PySem PySem.Spec PyProof.Rows L2
theorem wipe_get (σ : L2.St) : ∀ (vs : List Nat) (i : Nat), i < σ.length → (wipe σ vs)[i]? = if i ∈ vs then some none else σ[i]?
  | [], i, _ => by simp [wipe]
  | v :: vs, i, h => by
    show ((wipe σ vs).set v none)[i]? = _
    by_cases e : v = i
    · subst e
      rw [List.getElem?_set_self (by rw [wipe_length]; exact h)]
      simp
    · rw [List.getElem?_set_ne e, wipe_get σ vs i h]
      simp [Ne.symm e]
theorem wipe_set {σ : L2.St} {i : Nat} {o : Option V} {vs : List Nat} (h : i ∈ vs) : wipe (σ.set i o) vs = wipe σ vs := by
  apply List.ext_getElem?
  intro j
  by_cases hj : j < σ.length
  · rw [wipe_get _ _ _ (by simpa using hj), wipe_get _ _ _ hj]
    by_cases e : j ∈ vs
    · simp [e]
    · simp only [e, if_false]
      rw [List.getElem?_set_ne (fun z => e (by rw [← z]; exact h))]
  · rw [List.getElem?_eq_none (by rw [wipe_length]; simp; omega), List.getElem?_eq_none (by rw [wipe_length]; omega)]
def Wp (vs : List Nat) (σ σ' : L2.St) : Prop := wipe σ' vs = wipe σ vs
structure TgR (K : PySem.W.Frag) (xi : Xi) (vs : List Nat) (g : TG) (b : D → Env → (Env → Prop) → Prop) : Prop where
  run : ∀ {B : Bs} {S : Store} {F H : Hp} {ρ : List Addr} (d : D) (v : V) (σ : L2.St) (env : Env) (Q : L2.St → Hp → Prop) (Qe : Env → Prop), Rel K B S F ρ H → EnvR K xi F ρ env σ → Rep K F ρ v d → b d env Qe → (∀ env' σ', Qe env' → EnvR K xi F ρ env' σ' → Wp vs σ σ' → Q σ' H) → g v σ H Q
def bName (i : Nat) : D → Env → (Env → Prop) → Prop := fun d σ Q => Q (σ.set i (some d))
def bNil : List D → Env → (Env → Prop) → Prop := fun ds σ Q => ds = [] ∧ Q σ
def bCons (a : D → Env → (Env → Prop) → Prop) (r : List D → Env → (Env → Prop) → Prop) : List D → Env → (Env → Prop) → Prop := fun ds σ Q => ∃ d q, ds = d :: q ∧ a d σ fun σ1 => r q σ1 Q
def bTup (n : Nat) (r : List D → Env → (Env → Prop) → Prop) : D → Env → (Env → Prop) → Prop := fun d σ Q => ∃ ds, d = .tup ds ∧ ds.length = n ∧ r ds σ Q
section
variable {K : PySem.W.Frag} {xi : Xi} {vs : List Nat}
theorem g_name {i : Nat} (o : offX xi i = true := by rfl) (hi : i ∈ vs := by decide) : TgR K xi vs (gName i) (bName i) := ⟨fun d v σ env Q Qe R E r q P => P _ _ q (E.set o r) (wipe_set hi)⟩
end
structure WalkR (K : PySem.W.Frag) (J : It) (items : List D) (g : Option Nat) (S0 : Store) (F0 : Hp) (ρ0 : List Addr) : Prop where
  turn : ∀ (B : Bs) i d S F ρ H, items[i]? = some d → Rel K B S F ρ H → Ext F0 ρ0 F ρ → still g S0 S → J.go i H ∧ ∀ x H', J.yld i H x H' → ∃ F', Rel K B S F' ρ H' ∧ Ext F ρ F' ρ ∧ Rep K F' ρ x d
  stop : ∀ (B : Bs) S F ρ H, Rel K B S F ρ H → Ext F0 ρ0 F ρ → still g S0 S → J.stop items.length H
abbrev WI := Env → Store → (List D → Option Nat → Store → Prop) → QX → Prop
def tI (K : PySem.W.Frag) (xi : Xi) (B : Bs) (W : WX) (w : WI) : TI := fun σ H R => ∃ env S F ρ Qi Qx, Rel K B S F ρ H ∧ EnvR K xi F ρ env σ ∧ w env S Qi Qx ∧
  (∀ items g S' H' F' ρ' J, Qi items g S' → Rel K B S' F' ρ' H' → Ext F ρ F' ρ' → WalkR K J items g S' F' ρ' → R J H') ∧ PostX K B W F ρ Qx σ
theorem _root_.L2.PI.weak {X : Cx} {tg it : Expr} {t t' : TI} (h : PI X tg it t) (k : ∀ σ H R, t' σ H R → t σ H R) : PI X tg it t' := ⟨fun pins s σ H R I q => h.run pins s σ H R I (k σ H R q)⟩
def forL (b : D → Env → (Env → Prop) → Prop) (w : WS) (g : Option Nat) (S0 : Store) (k : Kt) : List D → Env → Store → Prop
  | [], σ, S => k.nx σ S
  | d :: ds, σ, S => b d σ fun σ1 => w σ1 S { k with nx := fun σ2 S2 => still g S0 S2 ∧ forL b w g S0 k ds σ2 S2, ct := fun σ2 S2 => still g S0 S2 ∧ forL b w g S0 k ds σ2 S2, bk := k.nx }
def wFor (b : D → Env → (Env → Prop) → Prop) (i : WI) (w : WS) : WS := fun σ S k => i σ S (fun items g S1 => forL b w g S1 k items σ S1) (fun c fs S1 => k.ex c fs σ S1)
theorem still_refl (g : Option Nat) (S : Store) : still g S S := by cases g <;> simp [still]
section
variable {X : Cx} {xi : Xi} {B : Bs} {W : WX}
theorem s_for {tg it : Expr} {body : List Stmt} {pos} {g : TG} {b : D → Env → (Env → Prop) → Prop} {i : WI} {w : WS} (hp : PassesOwn (model X.prog X.w) X.A X.env X.xe) (hc : X.calm = true) (hi : PI X tg it (tI X.K xi B W i)) (hg : PG X tg g) {vs : List Nat} (ht : TgR X.K xi vs g b)
    (hb : PSs X body (tS X.K xi B W w)) (hs : ∀ x, foldedSetIterable it X.env x = pure x := by intro _; rfl) : PS X (.For tg it body [] pos) (tS X.K xi B W (wFor b i w)) :=
  (ps_for hp hc hi hg hb hs).weak fun D σ H ⟨env, S, F, ρ, k, R, E, h2, P⟩ => ⟨env, S, F, ρ, _, _, R, E, h2, fun items gd S1 H1 F1 ρ1 J q R1 e1 wk => by
    refine ⟨fun n m σ2 H2 => m = items.length - n ∧ n ≤ items.length ∧ ∃ env2 S2 F2 ρ2, forL b w gd S1 k (items.drop n) env2 S2 ∧ Rel X.K B S2 F2 ρ2 H2 ∧ Ext F1 ρ1 F2 ρ2 ∧ EnvR X.K xi F2 ρ2 env2 σ2 ∧ still gd S1 S2,
      ⟨items.length, by omega, by omega, env, S1, F1, ρ1, by simpa using q, R1, Ext.refl, E.mono e1, still_refl _ _⟩, ?_⟩
    rintro n m σ2 H2 ⟨rfl, hn, env2, S2, F2, ρ2, f2, R2, e2, E2, st⟩
    have e12 := e1.trans e2
    by_cases hl : n < items.length
    · obtain ⟨d, hd⟩ : ∃ d, items[n]? = some d := ⟨items[n], by simp [hl]⟩
      have hdr : items.drop n = d :: items.drop (n + 1) := by
        rw [List.drop_eq_getElem_cons hl]
        have : items[n] = d := by
          have := List.getElem?_eq_some_iff.mp hd
          exact this.2
        rw [this]
      rw [hdr] at f2
      obtain ⟨hgo, hy⟩ := wk.turn B n d S2 F2 ρ2 H2 hd R2 e2 st
      refine .inr ⟨hgo, fun σ4 H4 => ∃ env4 S4 F4 ρ4, forL b w gd S1 k (items.drop (n + 1)) env4 S4 ∧ Rel X.K B S4 F4 ρ4 H4 ∧ Ext F1 ρ1 F4 ρ4 ∧ EnvR X.K xi F4 ρ4 env4 σ4 ∧ still gd S1 S4,
        fun σ4 H4 z => ⟨items.length - (n + 1), by omega, rfl, hl, z⟩, fun x H3 y => ?_⟩
      obtain ⟨F3, R3, e3, r3⟩ := hy x H3 y
      refine ht.run d x σ2 env2 _ _ R3 (E2.mono e3) r3 f2 fun env' σ' f3 E3 _ => ?_
      refine ⟨env', S2, F3, ρ2, _, R3, E3, f3, ?_⟩
      have e23 := e2.trans e3
      have Pe := P.ext (e1.trans e23)
      exact ⟨fun env4 S4 σ4 H4 F4 ρ4 ⟨s4, z⟩ R4 e4 E4 => ⟨env4, S4, F4, ρ4, z, R4, e23.trans e4, E4, s4⟩, Pe.rt, Pe.nx, fun env4 S4 σ4 H4 F4 ρ4 ⟨s4, z⟩ R4 e4 E4 => ⟨env4, S4, F4, ρ4, z, R4, e23.trans e4, E4, s4⟩, Pe.ex⟩
    · have hn2 : n = items.length := by omega
      subst hn2
      rw [List.drop_length] at f2
      exact .inl ⟨wk.stop B S2 F2 ρ2 H2 R2 e2 st, P.nx _ _ _ _ _ _ f2 R2 e12 E2⟩, P.px E⟩
end
end WM
set_option maxHeartbeats 1000000
namespace WM
open PySem PySem.Spec PyProof.Rows L2
section
variable {X : Cx} {xi : Xi} {B : Bs} {W : WX} {tg : Expr}
/-- any value that can be walked -/
def iVal (K : PySem.W.Frag) (tl : TE) : TI := fun σ H R => tl σ H fun x H1 => (∃ a, x = .ref a ∧ (∃ xs, SqL K H1 a xs) ∧ R (Itl K a) H1) ∨ (∃ a, x = .ref a ∧ (∃ xs, SqT K H1 a xs) ∧ R (Itt K a) H1) ∨ (∃ z, x = .str z ∧ R (Its z) H1) ∨
  (∃ d kvs, x = .ref d ∧ ((∃ o, H1 d = some (.frz o (.dK kvs)) ∧ R (Itk d o kvs) H1) ∨ (H1 d = some (.dK kvs) ∧ ∀ o, R (Itk d o kvs) (upd H1 d (.frz o (.dK kvs)))))) ∨
  (∃ d kvs, x = .ref d ∧ ((∃ o, H1 d = some (.frz o (.dT kvs)) ∧ R (Itkt d o kvs) H1) ∨ (H1 d = some (.dT kvs) ∧ ∀ o, R (Itkt d o kvs) (upd H1 d (.frz o (.dT kvs))))))
theorem pi_val {l : Expr} {tl : TE} (hl : PE X l tl) : PI X tg l (iVal X.K tl) := by
  refine ⟨fun pins s σ H R I h => ?_⟩
  refine thn (hl.run pins s σ H _ I h) fun v s1 ⟨x, H1, I1, r1, q1⟩ => ?_
  have kK : ∀ {d : Addr} {o : Obj} {kvs : List (Key × V)} {H2 : Hp}, Inv X pins σ H2 s1 → H2 d = some (.frz o (.dK kvs)) → R (Itk d o kvs) H2 → wpAny (model X.prog X.w) X.A (pyIter (.ref d)) (PIE X pins σ tg R) X.xe s1 := by
    intro d o kvs H2 I2 hd q
    obtain ⟨hs, hgd, hx, es, ep, vs, hdt, hsz, kv, hm⟩ := I2.frzK hd
    refine iter_keys hs hgd hx hdt (pi_one (tk := s1.toks) I2 _ (turn_keys _ hdt) ⟨_, Heap.get?_push_size _ rfl, rfl, ?_⟩ q)
    rw [hsz] <;> rfl
  have kT : ∀ {d : Addr} {o : Obj} {kvs : List (List Key × V)} {H2 : Hp}, Inv X pins σ H2 s1 → H2 d = some (.frz o (.dT kvs)) → R (Itkt d o kvs) H2 → wpAny (model X.prog X.w) X.A (pyIter (.ref d)) (PIE X pins σ tg R) X.xe s1 := by
    intro d o kvs H2 I2 hd q
    obtain ⟨hs, hgd, hx, es, ep, hdt, hsz, ent⟩ := I2.frzT hd
    refine iter_keys hs hgd hx hdt (pi_one (tk := s1.toks) I2 _ (turn_keysT _ hdt) ⟨_, Heap.get?_push_size _ rfl, rfl, ?_⟩ q)
    rw [hsz] <;> rfl
  rcases q1 with ⟨a, e, ⟨xs, hq⟩, q⟩ | ⟨a, e, ⟨xs, hq⟩, q⟩ | ⟨z, e, q⟩ | ⟨d, kvs, e, q⟩ | ⟨d, kvs, e, q⟩
  · subst e
    cases r1
    obtain ⟨its, rv, p, hz⟩ := I1.list hq
    refine wpAny_pyIter_list p.isList ?_
    refine ⟨s1.heap.objs.size, [s1.heap.objs.size], _, _, H1, rfl, I1.kept (t' := s1.toks) fun b o e => Heap.get?_push_of_some _ e, turn_list a _, ⟨_, Heap.get?_push_size _ rfl, rfl, rfl⟩, fun b hb => ?_, q⟩
    have e : b = s1.heap.objs.size := by simpa using hb
    subst e
    exact I1.fpOk (Nat.le_refl _) (I1.hok.fresh (Nat.le_refl _))
  · subst e
    cases r1
    obtain ⟨its, rv, p, hz⟩ := I1.tuple hq
    refine wpAny_pyIter_tuple (show s1.heap.IsTuple a its.toArray from p) ?_
    refine ⟨s1.heap.objs.size, [s1.heap.objs.size], _, _, H1, rfl, I1.kept (t' := s1.toks) fun b o e => Heap.get?_push_of_some _ e, turn_tuple a _, ⟨_, Heap.get?_push_size _ rfl, rfl, rfl⟩, fun b hb => ?_, q⟩
    have e : b = s1.heap.objs.size := by simpa using hb
    subst e
    exact I1.fpOk (Nat.le_refl _) (I1.hok.fresh (Nat.le_refl _))
  · subst e
    obtain ⟨t, rfl⟩ := r1
    cases ha : z.cps.all (· < 128)
    · exact wpAny_pyIter_wide ha (pi_one (tk := s1.toks) I1 _ (turn_str _ z t "str_iterator" (.inr rfl)) ⟨_, Heap.get?_push_size _ rfl, rfl, rfl⟩ q)
    · exact wpAny_pyIter_ascii ha (pi_one (tk := s1.toks) I1 _ (turn_str _ z t "str_ascii_iterator" (.inl rfl)) ⟨_, Heap.get?_push_size _ rfl, rfl, rfl⟩ q)
  · subst e
    obtain rfl : v = Value.ref d := r1
    rcases q with ⟨o, hd, q⟩ | ⟨hd, q⟩
    · exact kK I1 hd q
    · obtain ⟨o, I2⟩ := I1.lock hd trivial
      exact kK I2 upd_same (q o)
  · subst e
    obtain rfl : v = Value.ref d := r1
    rcases q with ⟨o, hd, q⟩ | ⟨hd, q⟩
    · exact kT I1 hd q
    · obtain ⟨o, I2⟩ := I1.lock hd trivial
      exact kT I2 upd_same (q o)
/-- the items of a value: cells of lists are watched; dicts must be data -/
def itemsV (S : Store) (d : D) : Option (List D) := match d with
  | .dct _ kvs => some (kvs.map (·.1))
  | .str s => some (s.cps.toList.map fun c => .str ⟨#[c]⟩)
  | d => getSq S d
def wVal (a : WE) : WI := fun σ S Q X => a σ S (fun d S1 => ∃ l, itemsV S1 d = some l ∧ Q l (cellOf d) S1) X
theorem deref_still {S0 S : Store} {d : D} (h : still (cellOf d) S0 S) : deref S d = deref S0 d := by
  cases d with
  | cell k =>
    have : S[k]? = S0[k]? := h
    simp only [deref, this]
  | _ => rfl
section
variable {K : PySem.W.Frag} {S : Store} {F H : Hp} {ρ : List Addr} {v : V} {d : D} {l : List D}
theorem walkR_list {a : Addr} {ds : List D} (r : Rep K F ρ (.ref a) d) (h : deref S d = .lst ds) : WalkR K (Itl K a) ds (cellOf d) S F ρ := by
  have at_ : ∀ {B : Bs} {S1 : Store} {F1 H1 : Hp} {ρ1 : List Addr}, Rel K B S1 F1 ρ1 H1 → Ext F ρ F1 ρ1 → still (cellOf d) S S1 → ∃ xs, H1 a = some (.lst xs) ∧ RepL K F1 ρ1 xs ds := by
    intro B S1 F1 H1 ρ1 R1 e1 st
    obtain ⟨b, xs, e, h1, h2⟩ := rep_lst R1 (r.mono e1) ((deref_still st).trans h)
    cases e
    exact ⟨xs, h1, h2⟩
  refine ⟨fun B i x S1 F1 ρ1 H1 hi R1 e1 st => ?_, fun B S1 F1 ρ1 H1 R1 e1 st => ?_⟩
  · obtain ⟨xs, h1, h2⟩ := at_ R1 e1 st
    obtain ⟨y, hy, ry⟩ := h2.get hi
    refine ⟨walk_list.goes i H1 (List.getElem?_eq_some_iff.mp hy).1 (SqL.of h1), fun z H' yl => ?_⟩
    obtain ⟨rfl, hz⟩ := walk_list.yields i H1 z H' (List.getElem?_eq_some_iff.mp hy).1 (SqL.of h1) yl
    rw [hy] at hz; cases hz
    exact ⟨F1, R1, Ext.refl, ry⟩
  · obtain ⟨xs, h1, h2⟩ := at_ R1 e1 st
    rw [← h2.length]
    exact walk_list.stops H1 (SqL.of h1)
theorem walkR_tup {a : Addr} {ds : List D} {g : Option Nat} {S : Store} (r : Rep K F ρ (.ref a) (.tup ds)) : WalkR K (Itt K a) ds g S F ρ := by
  have at_ : ∀ {B : Bs} {S1 : Store} {F1 H1 : Hp} {ρ1 : List Addr}, Rel K B S1 F1 ρ1 H1 → Ext F ρ F1 ρ1 → ∃ xs, H1 a = some (.tup xs) ∧ RepL K F1 ρ1 xs ds := by
    intro B S1 F1 H1 ρ1 R1 e1
    obtain ⟨b, xs, e, h1, h2⟩ := rep_tup R1 (r.mono e1) rfl
    cases e
    exact ⟨xs, h1, h2⟩
  refine ⟨fun B i x S1 F1 ρ1 H1 hi R1 e1 st => ?_, fun B S1 F1 ρ1 H1 R1 e1 st => ?_⟩
  · obtain ⟨xs, h1, h2⟩ := at_ R1 e1
    obtain ⟨y, hy, ry⟩ := h2.get hi
    refine ⟨walk_tup.goes i H1 (List.getElem?_eq_some_iff.mp hy).1 (SqT.of h1), fun z H' yl => ?_⟩
    obtain ⟨rfl, hz⟩ := walk_tup.yields i H1 z H' (List.getElem?_eq_some_iff.mp hy).1 (SqT.of h1) yl
    rw [hy] at hz; cases hz
    exact ⟨F1, R1, Ext.refl, ry⟩
  · obtain ⟨xs, h1, h2⟩ := at_ R1 e1
    rw [← h2.length]
    exact walk_tup.stops H1 (SqT.of h1)
theorem walkR_str {z : Str} {g : Option Nat} {S : Store} : WalkR K (Its z) (z.cps.toList.map fun c => .str ⟨#[c]⟩) g S F ρ := by
  refine ⟨fun B i x S1 F1 ρ1 H1 hi R1 e1 st => ?_, fun B S1 F1 ρ1 H1 R1 e1 st => ?_⟩
  · have hl : i < z.cps.size := by simpa using (List.getElem?_eq_some_iff.mp hi).1
    refine ⟨walk_str.goes i H1 hl trivial, fun y H' yl => ?_⟩
    obtain ⟨rfl, c, hc, rfl⟩ := walk_str.yields i H1 y H' hl trivial yl
    rw [List.getElem?_map, Array.getElem?_toList, hc] at hi
    cases hi
    exact ⟨F1, R1, Ext.refl, rfl⟩
  · have := walk_str (z := z).stops H1 trivial
    simpa using this
theorem repK_get : ∀ {ps : List (Key × V)} {kvs : List (D × D)} {i : Nat} {p : D × D}, RepK K F ρ ps kvs → kvs[i]? = some p → ∃ k v, ps[i]? = some (k, v) ∧ kOf k = p.1 ∧ Rep K F ρ v p.2
  | (k, v) :: _, (_, _) :: _, 0, p, ⟨h1, h2, _⟩, e => by simp at e; subst e; exact ⟨k, v, by simp, h1, h2⟩
  | (_, _) :: _, (_, _) :: _, i + 1, p, ⟨_, _, h⟩, e => by
    obtain ⟨k, v, h1, h2⟩ := repK_get (i := i) (p := p) h (by simpa using e)
    exact ⟨k, v, by simpa using h1, h2⟩
  | [], [], _, _, _, e => by simp at e
  | [], _ :: _, _, _, h, _ => h.elim
  | _ :: _, [], _, _, h, _ => h.elim
theorem repT_get : ∀ {ps : List (List Key × V)} {kvs : List (D × D)} {i : Nat} {p : D × D}, RepT K F ρ ps kvs → kvs[i]? = some p → ∃ k v, ps[i]? = some (k, v) ∧ D.tup (k.map kOf) = p.1 ∧ Rep K F ρ v p.2
  | (k, v) :: _, (_, _) :: _, 0, p, ⟨h1, h2, _⟩, e => by simp at e; subst e; exact ⟨k, v, by simp, h1, h2⟩
  | (_, _) :: _, (_, _) :: _, i + 1, p, ⟨_, _, h⟩, e => by
    obtain ⟨k, v, h1, h2⟩ := repT_get (i := i) (p := p) h (by simpa using e)
    exact ⟨k, v, by simpa using h1, h2⟩
  | [], [], _, _, _, e => by simp at e
  | [], _ :: _, _, _, h, _ => h.elim
  | _ :: _, [], _, _, h, _ => h.elim
theorem repT_len : ∀ {ps : List (List Key × V)} {kvs : List (D × D)}, RepT K F ρ ps kvs → ps.length = kvs.length
  | [], [], _ => rfl
  | (_, _) :: _, (_, _) :: _, ⟨_, _, h⟩ => by simp [repT_len h]
  | [], _ :: _, h => h.elim
  | _ :: _, [], h => h.elim
theorem rep_key {k : Key} {d : D} (h : kOf k = d) : Rep K F ρ (kV k) d := by subst h; cases k <;> rfl
theorem repL_keys : ∀ k : List Key, RepL K F ρ (k.map kV) (k.map kOf)
  | [] => True.intro
  | k :: r => ⟨rep_key rfl, repL_keys r⟩
theorem walkR_keys {a : Addr} {o : Obj} {ps : List (Key × V)} {kvs : List (D × D)} {g : Option Nat} {S : Store} (hF : F a = some (.frz o (.dK ps))) (r : RepK K F ρ ps kvs) : WalkR K (Itk a o ps) (kvs.map (·.1)) g S F ρ := by
  refine ⟨fun B i x S1 F1 ρ1 H1 hi R1 e1 st => ?_, fun B S1 F1 ρ1 H1 R1 e1 st => ?_⟩
  · have hH := R1.le _ _ (e1.f.ex hF)
    rw [List.getElem?_map, Option.map_eq_some_iff] at hi
    obtain ⟨p, hp, rfl⟩ := hi
    obtain ⟨k, v, h1, h2, _⟩ := repK_get r hp
    have hl := (List.getElem?_eq_some_iff.mp h1).1
    refine ⟨walk_keys.goes i H1 hl hH, fun y H' yl => ?_⟩
    obtain ⟨rfl, k', v', h3, rfl⟩ := walk_keys.yields i H1 y H' hl hH yl
    rw [h1] at h3; cases h3
    exact ⟨F1, R1, Ext.refl, rep_key h2⟩
  · rw [List.length_map, ← repK_len r]
    exact walk_keys.stops H1 (R1.le _ _ (e1.f.ex hF))
theorem walkR_keysT {a : Addr} {o : Obj} {ps : List (List Key × V)} {kvs : List (D × D)} {g : Option Nat} {S : Store} (hF : F a = some (.frz o (.dT ps))) (r : RepT K F ρ ps kvs) : WalkR K (Itkt a o ps) (kvs.map (·.1)) g S F ρ := by
  refine ⟨fun B i x S1 F1 ρ1 H1 hi R1 e1 st => ?_, fun B S1 F1 ρ1 H1 R1 e1 st => ?_⟩
  · have hH := R1.le _ _ (e1.f.ex hF)
    rw [List.getElem?_map, Option.map_eq_some_iff] at hi
    obtain ⟨p, hp, rfl⟩ := hi
    obtain ⟨k, v, h1, h2, _⟩ := repT_get r hp
    have hl := (List.getElem?_eq_some_iff.mp h1).1
    refine ⟨walk_keysT.goes i H1 hl hH, fun y H' yl => ?_⟩
    obtain ⟨rfl, k', v', q, h3, rfl, h4⟩ := walk_keysT.yields i H1 y H' hl hH yl
    rw [h1] at h3; cases h3
    obtain ⟨R2, e2⟩ := R1.addTup h4
    exact ⟨_, R2, e2, by rw [← h2]; exact ⟨q, _, rfl, upd_same, repL_keys k⟩⟩
  · rw [List.length_map, ← repT_len r]
    exact walk_keysT.stops H1 (R1.le _ _ (e1.f.ex hF))
end
theorem i_val {l : Expr} {a : WE} (h : PE X l (tE X.K xi B W a)) : PI X tg l (tI X.K xi B W (wVal a)) :=
  (pi_val h).weak fun σ H Q ⟨env, S, F, ρ, Qi, Qx, R, E, h2, P, PX⟩ => ⟨env, S, F, ρ, _, Qx, R, E, h2, fun d S1 v H1 F1 ρ1 ⟨l, hl, q⟩ R1 e1 r1 => (by
    have seq : ∀ l, getSq S1 d = some l → Qi l (cellOf d) S1 → (∃ a, v = .ref a ∧ (∃ xs, SqL X.K H1 a xs) ∧ Q (Itl X.K a) H1) ∨ (∃ a, v = .ref a ∧ (∃ xs, SqT X.K H1 a xs) ∧ Q (Itt X.K a) H1) := by
      intro l hl q
      unfold getSq at hl
      split at hl
      · rename_i ds h1
        cases hl
        obtain ⟨a, xs, rfl, ha, rr⟩ := rep_lst R1 r1 h1
        exact .inl ⟨a, rfl, ⟨xs, SqL.of ha⟩, P _ _ _ _ _ _ _ q R1 e1 (walkR_list r1 h1)⟩
      · rename_i ds h1
        cases hl
        obtain ⟨a, xs, rfl, ha, rr⟩ := rep_tup R1 r1 h1
        have hd : d = .tup l := by
          cases d with
          | tup k => simp [deref] at h1; rw [h1]
          | cell k => simp only [deref] at h1; split at h1 <;> cases h1
          | _ => cases h1
        subst hd
        exact .inr ⟨a, rfl, ⟨xs, SqT.of ha⟩, P _ _ _ _ _ _ _ q R1 e1 (walkR_tup r1)⟩
      · cases hl
    unfold itemsV at hl
    split at hl
    · rename_i t kvs _
      cases hl
      cases t with
      | false =>
        obtain ⟨a, ps, rfl, ha, rr⟩ := r1
        refine .inr (.inr (.inr (.inl ⟨a, ps, rfl, ?_⟩)))
        rcases ha with ha | ⟨o, ha⟩
        · refine .inr ⟨R1.le _ _ ha, fun o => ?_⟩
          obtain ⟨R2, e2⟩ := R1.lock ha rfl o
          exact P _ _ _ _ _ _ _ q R2 (e1.trans e2) (walkR_keys upd_same (RepK.mono e2 rr))
        · exact .inl ⟨o, R1.le _ _ ha, P _ _ _ _ _ _ _ q R1 e1 (walkR_keys ha rr)⟩
      | true =>
        obtain ⟨a, ps, rfl, ha, rr⟩ := r1
        refine .inr (.inr (.inr (.inr ⟨a, ps, rfl, ?_⟩)))
        rcases ha with ha | ⟨o, ha⟩
        · refine .inr ⟨R1.le _ _ ha, fun o => ?_⟩
          obtain ⟨R2, e2⟩ := R1.lock ha rfl o
          exact P _ _ _ _ _ _ _ q R2 (e1.trans e2) (walkR_keysT upd_same (RepT.mono e2 rr))
        · exact .inl ⟨o, R1.le _ _ ha, P _ _ _ _ _ _ _ q R1 e1 (walkR_keysT ha rr)⟩
    · cases hl
      exact .inr (.inr (.inl ⟨_, r1, P _ _ _ _ _ _ _ q R1 e1 walkR_str⟩))
    · rcases seq l hl q with z | z
      · exact .inl z
      · exact .inr (.inl z)), PX⟩
theorem walkR_range {K : PySem.W.Frag} {F : Hp} {ρ : List Addr} {lo : Int} {n : Nat} {g : Option Nat} {S : Store} : WalkR K (Itr lo n) ((List.range n).map fun i : Nat => .int (lo + i)) g S F ρ := by
  refine ⟨fun B i x S1 F1 ρ1 H1 hi R1 e1 st => ?_, fun B S1 F1 ρ1 H1 R1 e1 st => ?_⟩
  · have hl : i < n := by simpa using (List.getElem?_eq_some_iff.mp hi).1
    refine ⟨walk_range.goes i H1 hl trivial, fun y H' yl => ?_⟩
    obtain ⟨rfl, rfl⟩ := walk_range.yields i H1 y H' hl trivial yl
    have : x = .int (lo + i) := by
      rw [List.getElem?_map, List.getElem?_range hl] at hi
      cases hi; rfl
    subst this
    exact ⟨F1, R1, Ext.refl, rfl⟩
  · have := walk_range (lo := lo) (n := n).stops H1 trivial
    simpa using this
def big (i : Int) : Prop := -(2 ^ 62) ≤ i ∧ i < 2 ^ 62
def rangeD (lo hi : Int) : List D := (List.range (hi - lo).toNat).map fun i : Nat => .int (lo + i)
def wRange1 (w : WL) : WI := fun σ S Q X => w σ S (fun ds S1 => ∃ n, ds = [.int n] ∧ big n ∧ Q (rangeD 0 n) none S1) X
def wRange2 (w : WL) : WI := fun σ S Q X => w σ S (fun ds S1 => ∃ lo hi, ds = [.int lo, .int hi] ∧ big lo ∧ big hi ∧ Q (rangeD lo hi) none S1) X
theorem i_range1 {it : Expr} {w : WL} (h : PI X tg it (iRng1 (tL X.K xi B W w))) : PI X tg it (tI X.K xi B W (wRange1 w)) :=
  h.weak fun σ H Q ⟨env, S, F, ρ, Qi, Qx, R, E, h2, P, PX⟩ => ⟨env, S, F, ρ, _, Qx, R, E, h2, fun ds S1 vs H1 F1 ρ1 ⟨n, hd, hb, q⟩ R1 e1 r1 => (by
    subst hd
    obtain ⟨v, rfl, rv⟩ := repL1 r1
    have e0 : (n - 0).toNat = n.toNat := by rw [Int.sub_zero]
    refine ⟨n, by rw [show v = _ from rv], hb.1, hb.2, P _ _ _ _ _ _ _ q R1 e1 ?_⟩
    have := walkR_range (K := X.K) (F := F1) (ρ := ρ1) (lo := 0) (n := n.toNat) (g := none) (S := S1)
    unfold rangeD
    rw [e0]
    exact this), PX⟩
def wEnum (w : WL) : WI := fun σ S Q X => w σ S (fun ds S1 => ∃ x l, ds = [x] ∧ getL S1 x = some l ∧ Q (enumL l) (cellOf x) S1) X
def dK? (d : D) : Option (List (D × D)) := match d with
  | .dct false kvs => some kvs
  | _ => none
def wItems (a : WE) : WI := fun σ S Q X => a σ S (fun d S1 => ∃ l, dK? d = some l ∧ Q (l.map fun p => .tup [p.1, p.2]) none S1) X
def wVals (a : WE) : WI := fun σ S Q X => a σ S (fun d S1 => ∃ l, dK? d = some l ∧ Q (l.map (·.2)) none S1) X
end
end WM
set_option maxHeartbeats 1000000
namespace WM
open PySem PySem.Spec PyProof.Rows L2
def hid (S : Store) (ρ : List Addr) (H : Hp) (a : Addr) : Prop := ∃ (k : Nat) (p : Addr) (g : Nat) (a1 : Addr) (n : Int), S[k]? = some (.st g) ∧ ρ[k]? = some p ∧ H p = some (.lst [.ref a, .ref a1, .int n])
def sub (S : Store) (F : Hp) (ρ : List Addr) (H : Hp) : Bs := ⟨H, F, fun a => a ∈ ρ ∨ hid S ρ H a⟩
section
variable {K : PySem.W.Frag} {B : Bs} {S S' : Store} {F F' : Hp} {ρ ρ' : List Addr} {H H' : Hp}
theorem RepO.base {B B' : Bs} {a : Addr} {o : Ob} (h : RepO K B F ρ H a o) (k : ∀ g, o = .st g → ∀ a0, hid S ρ H a0 ∨ True → (B.im a0 ∨ B.H0 a0 = none) → (∃ a1 n, H a = some (.lst [.ref a0, .ref a1, .int n])) → B'.im a0 ∨ B'.H0 a0 = none) : RepO K B' F ρ H a o := by
  cases o with
  | lst ds => exact h
  | dct t kvs => cases t <;> exact h
  | fz t kvs => cases t <;> exact h
  | ins c fs => exact h
  | st g =>
    obtain ⟨a0, a1, ns, ms, n, h1, h2, h3, h4, h5, h6, h7, h8, h9, h10⟩ := h
    exact ⟨a0, a1, ns, ms, n, h1, h2, h3, h4, h5, h6, h7, h8, h9, k g rfl a0 (.inr trivial) h10 ⟨a1, n, h1⟩⟩
theorem Rel.enter (R : Rel K B S F ρ H) : Rel K (sub S F ρ H) S F ρ H := by
  refine ⟨R.le, R.len, R.nd, R.out, fun k a o q1 q2 => ?_, fun a o h _ => .inl h, fun a o h => .inl (by rw [show (sub S F ρ H).F0 = F from rfl, h]; simp), fun a ha => .inl (.inl ha), fun a h => h⟩
  refine (R.cell k a o q1 q2).base (S := S) fun g e a0 _ _ ⟨a1, n, h1⟩ => ?_
  subst e
  exact .inl (.inr ⟨k, a, g, a1, n, q2, q1, h1⟩)
theorem hid_im (R : Rel K B S F ρ H) {a : Addr} (h : hid S ρ H a) : B.im a ∨ B.H0 a = none := by
  obtain ⟨k, p, g, a1, n, h1, h2, h3⟩ := h
  obtain ⟨a0, a1', ns, ms, n', e1, _, _, _, _, _, _, _, _, e2⟩ := R.cell k p _ h2 h1
  rw [h3] at e1
  cases e1
  exact e2
theorem sub_im (R : Rel K B S F ρ H) {a : Addr} (h : (sub S F ρ H).im a) : B.im a ∨ B.H0 a = none := by
  rcases h with h | h
  · exact R.cnew a h
  · exact hid_im R h
theorem Rel.leave (R : Rel K B S F ρ H) (R' : Rel K (sub S F ρ H) S' F' ρ' H') (e : Ext F ρ F' ρ') : Rel K B S' F' ρ' H' := by
  have none_ : ∀ a, H a = none → B.H0 a = none := fun a h => by
    cases q : B.H0 a with
    | none => rfl
    | some o => exact absurd h (R.gr a (by rw [q]; simp))
  refine ⟨R'.le, R'.len, R'.nd, R'.out, fun k a o q1 q2 => ?_, fun a o h hn => ?_, fun a o h => ?_, fun a ha => ?_, fun a h => R'.gr a (R.gr a h)⟩
  · refine (R'.cell k a o q1 q2).base (S := S') fun g _ a0 _ hq _ => ?_
    rcases hq with hq | hq
    · exact sub_im R hq
    · exact .inr (none_ a0 hq)
  · have hni : ¬ (sub S F ρ H).im a := fun z => by
      rcases sub_im R z with y | y
      · exact hn y
      · rw [y] at h; cases h
    rcases R.fr a o h hn with h1 | ⟨hF, hl, ob, h1⟩
    · rcases R'.fr a o h1 hni with h2 | ⟨hF, hl, ob, h2⟩
      · exact .inl h2
      · refine .inr ⟨?_, hl, ob, h2⟩
        obtain ⟨u, hu⟩ := Option.ne_none_iff_exists'.mp (show F a ≠ none from hF)
        rcases R.new a u hu with y | y | ⟨xs, rfl⟩ | y
        · exact y
        · rw [y] at h; cases h
        · have := R.le _ _ hu
          rw [h1] at this; cases this; cases hl
        · exact absurd y hn
    · rcases R'.fr a _ h1 hni with h2 | ⟨_, hl2, _⟩
      · exact .inr ⟨hF, hl, ob, h2⟩
      · cases hl2
  · rcases R'.new a o h with h1 | h1 | h1 | h1
    · obtain ⟨u, hu⟩ := Option.ne_none_iff_exists'.mp (show F a ≠ none from h1)
      rcases R.new a u hu with y | y | ⟨xs, rfl⟩ | y
      · exact .inl y
      · exact .inr (.inl y)
      · have := e.f.ex hu
        rw [h] at this; cases this
        exact .inr (.inr (.inl ⟨xs, rfl⟩))
      · exact .inr (.inr (.inr y))
    · exact .inr (.inl (none_ a h1))
    · exact .inr (.inr (.inl h1))
    · rcases sub_im R h1 with y | y
      · exact .inr (.inr (.inr y))
      · exact .inr (.inl y)
  · rcases R'.cnew a ha with y | y
    · exact sub_im R y
    · exact .inr (none_ a y)
/-- an object that is not told of -/
structure Unt (S : Store) (F : Hp) (ρ : List Addr) (H : Hp) (a : Addr) : Prop where
  f : F a = none
  r : a ∉ ρ
  h : ¬ hid S ρ H a
theorem Unt.keep (R : Rel K B S F ρ H) (R' : Rel K (sub S F ρ H) S' F' ρ' H') {a : Addr} {xs : List V} (u : Unt S F ρ H a) (h : H a = some (.lst xs)) : H' a = some (.lst xs) ∧ Unt S' F' ρ' H' a := by
  have ni : ¬ (sub S F ρ H).im a := fun z => z.elim u.r u.h
  have h' : H' a = some (.lst xs) := by
    rcases R'.fr a _ h ni with q | ⟨q, _⟩
    · exact q
    · exact absurd u.f q
  have nn : (sub S F ρ H).H0 a ≠ none := by rw [show (sub S F ρ H).H0 = H from rfl, h]; simp
  refine ⟨h', ?_, fun z => ?_, fun z => ?_⟩
  · cases q : F' a with
    | none => rfl
    | some o =>
      rcases R'.new a o q with y | y | ⟨ys, rfl⟩ | y
      · exact absurd u.f y
      · exact absurd y nn
      · have := R'.le _ _ q
        rw [h'] at this; cases this
      · exact absurd y ni
  · exact (R'.cnew a z).elim ni nn
  · exact (hid_im R' z).elim ni nn
/-- .. may be written, or gone -/
theorem Rel.off (R : Rel K B S F ρ H) {a : Addr} {H2 : Hp} (u : Unt S F ρ H a) (hB : B.H0 a = none) (k : ∀ b, b ≠ a → H2 b = H b) : Rel K B S F ρ H2 := by
  have ne1 : ∀ b u, F b = some u → b ≠ a := fun b v h => ne_of_none h u.f
  have ne2 : ∀ b, b ∈ ρ → b ≠ a := fun b h z => u.r (z ▸ h)
  refine ⟨fun b v h => by rw [k b (ne1 b v h)]; exact R.le b v h, R.len, R.nd, R.out, fun i b v q1 q2 => ?_, fun b v h hn => ?_, R.new, R.cnew, fun b h => ?_⟩
  · have hb : b ≠ a := ne2 b (List.mem_of_getElem? q1)
    have base := R.cell i b v q1 q2
    cases v with
    | lst ds => obtain ⟨vs, z1, z2⟩ := base; exact ⟨vs, by rw [k b hb]; exact z1, z2⟩
    | dct t kvs => cases t with
      | false => obtain ⟨vs, z1, z2⟩ := base; exact ⟨vs, by rw [k b hb]; exact z1, z2⟩
      | true => obtain ⟨vs, z1, z2⟩ := base; exact ⟨vs, by rw [k b hb]; exact z1, z2⟩
    | ins c fs => obtain ⟨dx, ps, z1, z2, z3⟩ := base; exact ⟨dx, ps, by rw [k b hb]; exact z1, z2, z3⟩
    | fz t kvs => cases t <;> exact base
    | st g =>
      obtain ⟨a0, a1, ns, ms, n, z1, z2, z3⟩ := base
      have : a0 ≠ a := fun z => u.h (z ▸ ⟨i, b, g, a1, n, q2, q1, z1⟩)
      exact ⟨a0, a1, ns, ms, n, by rw [k b hb]; exact z1, by rw [k a0 this]; exact z2, z3⟩
  · have : b ≠ a := fun z => by rw [z, hB] at h; cases h
    rw [k b this]; exact R.fr b v h hn
  · have : b ≠ a := fun z => by rw [z, hB] at h; exact h rfl
    rw [k b this]; exact R.gr b h
theorem Rel.updU (R : Rel K B S F ρ H) {a : Addr} {o : HO} (u : Unt S F ρ H a) (hB : B.H0 a = none) : Rel K B S F ρ (upd H a o) := R.off u hB fun b hb => upd_ne hb
theorem Unt.upd (u : Unt S F ρ H a) {o : HO} : Unt S F ρ (upd H a o) a := by
  refine ⟨u.f, u.r, fun ⟨k, p, g, a1, n, h1, h2, h3⟩ => u.h ⟨k, p, g, a1, n, h1, h2, ?_⟩⟩
  have hp : p ≠ a := fun z => u.r (by rw [← z]; exact List.mem_of_getElem? h2)
  rw [upd_ne hp] at h3
  exact h3
theorem Rel.unt (R : Rel K B S F ρ H) {a : Addr} (h : H a = none) : Unt S F ρ H a := by
  obtain ⟨h1, h2, _⟩ := R.fresh h
  refine ⟨h1, h2, fun ⟨k, p, g, a1, n, q1, q2, q3⟩ => ?_⟩
  obtain ⟨a0, a1', ns, ms, n', e1, e2, _⟩ := R.cell k p _ q2 q1
  rw [q3] at e1
  cases e1
  rw [h] at e2; cases e2
theorem Rel.le0 (R : Rel K B S F ρ H) {a : Addr} (h : H a = none) : B.H0 a = none := (R.fresh h).2.2
end
end WM
set_option maxHeartbeats 1000000
namespace WM
open PySem PySem.Spec PyProof.Rows L2
def W0 : WX := fun _ _ _ _ => False
theorem _root_.L2.PE.exi {X : Cx} {e : Expr} {ι : Type} {t : ι → TE} (h : ∀ i, PE X e (t i)) : PE X e (fun σ H Q => ∃ i, t i σ H Q) := ⟨fun pins s σ H Q I ⟨i, q⟩ => (h i).run pins s σ H Q I q⟩
theorem _root_.L2.PTs.exi {X : Cx} {e : List Expr} {ι : Type} {t : ι → TT} (h : ∀ i, PTs X e (t i)) : PTs X e (fun σ H Q => ∃ i, t i σ H Q) := ⟨fun pins s σ H Q I ⟨i, q⟩ => (h i).run pins s σ H Q I q⟩
theorem _root_.L2.PTs.weak {X : Cx} {e : List Expr} {t t' : TT} (h : PTs X e t) (k : ∀ σ H Q, t' σ H Q → t σ H Q) : PTs X e t' := ⟨fun pins s σ H Q I q => h.run pins s σ H Q I (k σ H Q q)⟩
def wYes : WT := fun _ S Q _ => Q true S
def compW (b : D → Env → (Env → Prop) → Prop) (t : WT) (e : WE) (g : Option Nat) (S0 : Store) : List D → Env → Store → (List D → Store → Prop) → Prop
  | [], _, S, Q => Q [] S
  | d :: ds, σ, S, Q => b d σ fun σ1 => t σ1 S (fun k S1 => if k = true then e σ1 S1 (fun y S2 => still g S0 S2 ∧ compW b t e g S0 ds σ S2 fun ys S3 => Q (y :: ys) S3) noX else still g S0 S1 ∧ compW b t e g S0 ds σ S1 Q) noX
def wComp (vs : List Nat) (b : D → Env → (Env → Prop) → Prop) (i : WI) (t : WT) (e : WE) : WL := fun σ S Q X => i σ S (fun items g S1 => items.length ≤ sizeLine ∧ compW b t e g S1 items (wipeE σ vs) S1 Q) X
theorem ibT {b : Bool} {A B : Prop} (e : b = true) (h : A) : if b = true then A else B := by rw [if_pos e]; exact h
theorem ibF {b : Bool} {A B : Prop} (e : b = false) (h : B) : if b = true then A else B := by rw [if_neg (by rw [e]; simp)]; exact h
theorem wipe_wipe (σ : L2.St) (vs : List Nat) : wipe (wipe σ vs) vs = wipe σ vs := by
  apply List.ext_getElem?
  intro j
  by_cases hj : j < σ.length
  · rw [wipe_get _ _ _ (by rw [wipe_length]; exact hj), wipe_get _ _ _ hj]
    split <;> rfl
  · rw [List.getElem?_eq_none (by rw [wipe_length, wipe_length]; omega), List.getElem?_eq_none (by rw [wipe_length]; omega)]
section
variable {X : Cx} {xi : Xi} {B : Bs} {W : WX}
theorem ts_nil : PTs X [] (tT X.K xi B W wYes) := pts_nil.weak fun σ H Q ⟨env, S, F, ρ, Qn, Qx, R, E, h2, P, PX⟩ => P _ _ _ _ _ h2 R Ext.refl
/-- the comprehension's reading -/
theorem comp_w {vs : List Nat} {g : TG} {b : D → Env → (Env → Prop) → Prop} {i : WI} {t : WT} {e : WE} (ht : TgR X.K xi vs g b) {σ : L2.St} {H : Hp} {Q : VK} (h : tN X.K xi B W (wComp vs b i t e) σ H Q) :
    tLc (tI X.K xi B W i) g (fun σ H Q => ∃ B', tT X.K xi B' W0 t σ H Q) (fun σ H Q => ∃ B', tE X.K xi B' W0 e σ H Q) vs σ H Q := by
  obtain ⟨env, S, F, ρ, Ql, Qx, R, E, h2, P, PX⟩ := h
  refine ⟨env, S, F, ρ, _, Qx, R, E, h2, fun items gd S1 H1 F1 ρ1 J ⟨hz, q⟩ R1 e1 wk D hD => ?_, PX⟩
  have uD := R1.unt hD
  have hB := R1.le0 hD
  have hn := (R1.fresh hD).2.2
  -- the state at turn n: acc is made, the rest is to come
  refine ⟨fun n m H2 => m = items.length - n ∧ n ≤ items.length ∧ ∃ S2 F2 ρ2 acc dacc, Rel X.K B S2 F2 ρ2 H2 ∧ Ext F1 ρ1 F2 ρ2 ∧ still gd S1 S2 ∧ Unt S2 F2 ρ2 H2 D ∧ H2 D = some (.lst acc) ∧ RepL X.K F2 ρ2 acc dacc ∧ acc.length ≤ n ∧
      compW b t e gd S1 (items.drop n) (wipeE env vs) S2 (fun ys S3 => Ql (dacc ++ ys) S3), ⟨items.length, by omega, by omega, S1, F1, ρ1, [], [], R1.updU uD hB, Ext.refl, still_refl _ _, uD.upd, upd_same, True.intro, by simp, by simpa using q⟩, ?_⟩
  rintro n m H2 ⟨rfl, hl, S2, F2, ρ2, acc, dacc, R2, e2, st, u2, hD2, ra, la, q2⟩
  have e12 := e1.trans e2
  by_cases hn : n < items.length
  · obtain ⟨d, hd⟩ : ∃ d, items[n]? = some d := ⟨items[n], by simp [hn]⟩
    have hdr : items.drop n = d :: items.drop (n + 1) := by
      rw [List.drop_eq_getElem_cons hn]
      have : items[n] = d := (List.getElem?_eq_some_iff.mp hd).2
      rw [this]
    rw [hdr] at q2
    -- the turn runs over its own base
    have R2s := R2.enter
    obtain ⟨hgo, hy⟩ := wk.turn _ n d S2 F2 ρ2 H2 hd R2s e2 st
    refine .inr ⟨hgo, fun H4 => ∃ S4 F4 ρ4 acc4 dacc4, Rel X.K B S4 F4 ρ4 H4 ∧ Ext F1 ρ1 F4 ρ4 ∧ still gd S1 S4 ∧ Unt S4 F4 ρ4 H4 D ∧ H4 D = some (.lst acc4) ∧ RepL X.K F4 ρ4 acc4 dacc4 ∧ acc4.length ≤ n + 1 ∧
        compW b t e gd S1 (items.drop (n + 1)) (wipeE env vs) S4 (fun ys S3 => Ql (dacc4 ++ ys) S3), fun H4 z => ⟨items.length - (n + 1), by omega, rfl, hn, z⟩, fun x H3 yl => ?_⟩
    obtain ⟨F3, R3, e3, r3⟩ := hy x H3 yl
    have Ew : EnvR X.K xi F3 ρ2 (wipeE env vs) (wipe σ vs) := (E.mono (e12.trans e3)).wipe vs
    refine ht.run d x (wipe σ vs) (wipeE env vs) _ _ R3 Ew r3 q2 fun env' σ' q3 E3 wp => ⟨(by rw [show wipe σ' vs = wipe (wipe σ vs) vs from wp, wipe_wipe]), ?_⟩
    refine ⟨_, env', S2, F3, ρ2, _, _, R3, E3, q3, fun k S4 H4 F4 ρ4 q4 R4 e4 => ?_, fun _ _ _ _ _ _ _ z => z.elim⟩
    have e34 := e3.trans e4
    have L4 := R2.leave R4 e34
    obtain ⟨hD4, u4⟩ := Unt.keep R2 R4 u2 hD2
    cases k with
    | true =>
      rw [if_pos rfl] at q4
      refine ibT rfl ⟨_, env', S4, F4, ρ4, _, _, R4, E3.mono e4, q4, fun y S5 v H5 F5 ρ5 ⟨st5, q5⟩ R5 e5 r5 => ?_, fun _ _ _ _ _ _ _ z => z.elim⟩
      have e35 := e34.trans e5
      have L5 := R2.leave R5 e35
      obtain ⟨hD5, u5⟩ := Unt.keep R2 R5 u2 hD2
      refine ⟨acc, hD5, ?_, S5, F5, ρ5, acc ++ [v], dacc ++ [y], L5.updU u5 hB, e2.trans e35, st5, u5.upd, upd_same, (ra.mono e35).append ⟨r5, True.intro⟩, by simp; omega, ?_⟩
      · omega
      · simpa using q5
    | false =>
      rw [if_neg Bool.false_ne_true] at q4
      obtain ⟨st4, q5⟩ := q4
      exact ibF rfl ⟨S4, F4, ρ4, acc, dacc, L4, e2.trans e34, st4, u4, hD4, ra.mono e34, by omega, q5⟩
  · have hn2 : n = items.length := by omega
    subst hn2
    rw [List.drop_length] at q2
    refine .inl ⟨wk.stop B S2 F2 ρ2 H2 R2 e2 st, ?_⟩
    let H5 : Hp := fun b => if b = D then none else H2 b
    have hH5 : upd H5 D (.lst acc) = H2 := by
      funext b
      by_cases hb : b = D
      · subst hb; rw [upd_same, hD2]
      · rw [upd_ne hb]; exact if_neg hb
    have R5 : Rel X.K B S2 F2 ρ2 H5 := R2.off u2 hB fun b hb => if_neg hb
    have q3 : Ql dacc S2 := by simpa [compW] using q2
    have := P dacc S2 H5 F2 ρ2 acc D q3 R5 e12 ra (if_pos rfl)
    rw [hH5] at this
    exact this
end
end WM
set_option maxHeartbeats 1000000
namespace WM
open PySem PySem.Spec PyProof.Rows L2
mutual
def D.sub (n : Nat) (t : D) : D → D
  | .cell k => if k = n then t else .cell k
  | .tup ds => .tup (subL n t ds)
  | .lst ds => .lst (subL n t ds)
  | .dct u kvs => .dct u (subP n t kvs)
  | .ins c fs => .ins c (subF n t fs)
  | .non => .non
  | .bl b => .bl b
  | .int i => .int i
  | .str s => .str s
  | .scr s => .scr s
  | .fn s => .fn s
  | .er c fs => .er c (subF n t fs)
def subL (n : Nat) (t : D) : List D → List D
  | [] => []
  | d :: r => D.sub n t d :: subL n t r
def subP (n : Nat) (t : D) : List (D × D) → List (D × D)
  | [] => []
  | (a, b) :: r => (a, D.sub n t b) :: subP n t r
def subF (n : Nat) (t : D) : List (String × D) → List (String × D)
  | [] => []
  | (a, b) :: r => (a, D.sub n t b) :: subF n t r
end
def Ob.sub (n : Nat) (t : D) : Ob → Ob
  | .lst ds => .lst (subL n t ds)
  | .dct u kvs => .dct u (subP n t kvs)
  | .ins c fs => .ins c (subF n t fs)
  | .st g => .st g
  | .fz u kvs => .fz u (subP n t kvs)
def Ob.tree : Ob → Option D
  | .lst ds => some (.lst ds)
  | .dct u kvs => some (.dct u kvs)
  | .ins c fs => some (.ins c fs)
  | .st _ => none
  | .fz _ _ => none
/-- cells are told of only where they are -/
def wf (S : Store) : Prop := ∀ o ∈ S, ∀ k ∈ o.refs, k < S.length
section
variable {K : PySem.W.Frag} {F F' : Hp} {ρ0 : List Addr} {a : Addr} {t : D}
mutual
theorem Rep.sub (e : Ext F ρ0 F' ρ0) (ht : Rep K F' ρ0 (.ref a) t) : ∀ {d : D} {v : V}, Rep K F (ρ0 ++ [a]) v d → Rep K F' ρ0 v (D.sub ρ0.length t d)
  | .non, _, h => h
  | .bl _, _, h => h
  | .int _, _, h => h
  | .str _, _, h => h
  | .cell k, _, ⟨b, h1, h2⟩ => by
    simp only [D.sub]
    by_cases hk : k = ρ0.length
    · subst hk
      rw [if_pos rfl]
      simp at h1
      subst h1 h2
      exact ht
    · rw [if_neg hk]
      have hl : k < ρ0.length := by
        have := (List.getElem?_eq_some_iff.mp h1).1
        simp at this; omega
      rw [List.getElem?_append_left hl] at h1
      exact ⟨b, h1, h2⟩
  | .tup ds, _, ⟨b, vs, h1, h2, h3⟩ => ⟨b, vs, h1, e.f.ex h2, RepL.sub e ht h3⟩
  | .lst ds, _, ⟨b, vs, h1, h2, h3⟩ => ⟨b, vs, h1, e.f.ex h2, RepL.sub e ht h3⟩
  | .dct false kvs, _, ⟨b, ps, h1, h2, h3⟩ => ⟨b, ps, h1, e.f.rd h2, RepK.sub e ht h3⟩
  | .dct true kvs, _, ⟨b, ps, h1, h2, h3⟩ => ⟨b, ps, h1, e.f.rd h2, RepT.sub e ht h3⟩
  | .ins c fs, _, ⟨b, dx, ps, h1, h2, h3, h4⟩ => ⟨b, dx, ps, h1, e.f.ex h2, e.f.ex h3, RepF.sub e ht h4⟩
  | .scr ns, _, ⟨b, h1, h2⟩ => ⟨b, h1, SqL.keepF e.f h2⟩
  | .fn _, _, h => h
  | .er c fs, _, ⟨b, d, ps, h1, h2, h3, h4⟩ => ⟨b, d, ps, h1, e.f.ex h2, h3.mono e.f, RepF.sub e ht h4⟩
theorem RepL.sub (e : Ext F ρ0 F' ρ0) (ht : Rep K F' ρ0 (.ref a) t) : ∀ {ds : List D} {vs : List V}, RepL K F (ρ0 ++ [a]) vs ds → RepL K F' ρ0 vs (subL ρ0.length t ds)
  | [], [], h => h
  | d :: ds, v :: vs, ⟨h1, h2⟩ => ⟨Rep.sub e ht h1, RepL.sub e ht h2⟩
  | [], _ :: _, h => h.elim
  | _ :: _, [], h => h.elim
theorem RepK.sub (e : Ext F ρ0 F' ρ0) (ht : Rep K F' ρ0 (.ref a) t) : ∀ {ds : List (D × D)} {vs : List (Key × V)}, RepK K F (ρ0 ++ [a]) vs ds → RepK K F' ρ0 vs (subP ρ0.length t ds)
  | [], [], h => h
  | (_, _) :: ds, (_, _) :: vs, ⟨h0, h1, h2⟩ => ⟨h0, Rep.sub e ht h1, RepK.sub e ht h2⟩
  | [], _ :: _, h => h.elim
  | _ :: _, [], h => h.elim
theorem RepT.sub (e : Ext F ρ0 F' ρ0) (ht : Rep K F' ρ0 (.ref a) t) : ∀ {ds : List (D × D)} {vs : List (List Key × V)}, RepT K F (ρ0 ++ [a]) vs ds → RepT K F' ρ0 vs (subP ρ0.length t ds)
  | [], [], h => h
  | (_, _) :: ds, (_, _) :: vs, ⟨h0, h1, h2⟩ => ⟨h0, Rep.sub e ht h1, RepT.sub e ht h2⟩
  | [], _ :: _, h => h.elim
  | _ :: _, [], h => h.elim
theorem RepF.sub (e : Ext F ρ0 F' ρ0) (ht : Rep K F' ρ0 (.ref a) t) : ∀ {ds : List (String × D)} {vs : List (Str × V)}, RepF K F (ρ0 ++ [a]) vs ds → RepF K F' ρ0 vs (subF ρ0.length t ds)
  | [], [], h => h
  | (_, _) :: ds, (_, _) :: vs, ⟨h0, h1, h2⟩ => ⟨h0, Rep.sub e ht h1, RepF.sub e ht h2⟩
  | [], _ :: _, h => h.elim
  | _ :: _, [], h => h.elim
end
mutual
theorem Rep.shr (e : Ext F ρ0 F' ρ0) : ∀ {d : D} {v : V}, ρ0.length ∉ d.refs → Rep K F (ρ0 ++ [a]) v d → Rep K F' ρ0 v d
  | .non, _, _, h => h
  | .bl _, _, _, h => h
  | .int _, _, _, h => h
  | .str _, _, _, h => h
  | .cell k, _, n, ⟨b, h1, h2⟩ => by
    have hk : k ≠ ρ0.length := fun z => n (by simp [D.refs, z])
    have hl : k < ρ0.length := by
      have := (List.getElem?_eq_some_iff.mp h1).1
      simp at this; omega
    rw [List.getElem?_append_left hl] at h1
    exact ⟨b, h1, h2⟩
  | .tup ds, _, n, ⟨b, vs, h1, h2, h3⟩ => ⟨b, vs, h1, e.f.ex h2, RepL.shr e (by simpa [D.refs] using n) h3⟩
  | .lst ds, _, n, ⟨b, vs, h1, h2, h3⟩ => ⟨b, vs, h1, e.f.ex h2, RepL.shr e (by simpa [D.refs] using n) h3⟩
  | .dct false kvs, _, n, ⟨b, ps, h1, h2, h3⟩ => ⟨b, ps, h1, e.f.rd h2, RepK.shr e (by simpa [D.refs] using n) h3⟩
  | .dct true kvs, _, n, ⟨b, ps, h1, h2, h3⟩ => ⟨b, ps, h1, e.f.rd h2, RepT.shr e (by simpa [D.refs] using n) h3⟩
  | .ins c fs, _, n, ⟨b, dx, ps, h1, h2, h3, h4⟩ => ⟨b, dx, ps, h1, e.f.ex h2, e.f.ex h3, RepF.shr e (by simpa [D.refs] using n) h4⟩
  | .scr ns, _, _, ⟨b, h1, h2⟩ => ⟨b, h1, SqL.keepF e.f h2⟩
  | .fn _, _, _, h => h
  | .er c fs, _, n, ⟨b, d, ps, h1, h2, h3, h4⟩ => ⟨b, d, ps, h1, e.f.ex h2, h3.mono e.f, RepF.shr e (by simpa [D.refs] using n) h4⟩
theorem RepL.shr (e : Ext F ρ0 F' ρ0) : ∀ {ds : List D} {vs : List V}, ρ0.length ∉ refsL ds → RepL K F (ρ0 ++ [a]) vs ds → RepL K F' ρ0 vs ds
  | [], [], _, h => h
  | d :: ds, v :: vs, n, ⟨h1, h2⟩ => by
    simp only [refsL, List.mem_append, not_or] at n
    exact ⟨Rep.shr e n.1 h1, RepL.shr e n.2 h2⟩
  | [], _ :: _, _, h => h.elim
  | _ :: _, [], _, h => h.elim
theorem RepK.shr (e : Ext F ρ0 F' ρ0) : ∀ {ds : List (D × D)} {vs : List (Key × V)}, ρ0.length ∉ refsP ds → RepK K F (ρ0 ++ [a]) vs ds → RepK K F' ρ0 vs ds
  | [], [], _, h => h
  | (_, _) :: ds, (_, _) :: vs, n, ⟨h0, h1, h2⟩ => by
    simp only [refsP, List.mem_append, not_or] at n
    exact ⟨h0, Rep.shr e n.2.1 h1, RepK.shr e n.2.2 h2⟩
  | [], _ :: _, _, h => h.elim
  | _ :: _, [], _, h => h.elim
theorem RepT.shr (e : Ext F ρ0 F' ρ0) : ∀ {ds : List (D × D)} {vs : List (List Key × V)}, ρ0.length ∉ refsP ds → RepT K F (ρ0 ++ [a]) vs ds → RepT K F' ρ0 vs ds
  | [], [], _, h => h
  | (_, _) :: ds, (_, _) :: vs, n, ⟨h0, h1, h2⟩ => by
    simp only [refsP, List.mem_append, not_or] at n
    exact ⟨h0, Rep.shr e n.2.1 h1, RepT.shr e n.2.2 h2⟩
  | [], _ :: _, _, h => h.elim
  | _ :: _, [], _, h => h.elim
theorem RepF.shr (e : Ext F ρ0 F' ρ0) : ∀ {ds : List (String × D)} {vs : List (Str × V)}, ρ0.length ∉ refsF ds → RepF K F (ρ0 ++ [a]) vs ds → RepF K F' ρ0 vs ds
  | [], [], _, h => h
  | (_, _) :: ds, (_, _) :: vs, n, ⟨h0, h1, h2⟩ => by
    simp only [refsF, List.mem_append, not_or] at n
    exact ⟨h0, Rep.shr e n.1 h1, RepF.shr e n.2 h2⟩
  | [], _ :: _, _, h => h.elim
  | _ :: _, [], _, h => h.elim
end
end
section
variable {K : PySem.W.Frag} {B : Bs} {S0 : Store} {o : Ob} {F H : Hp} {ρ : List Addr} {t : D}
theorem Rel.split (R : Rel K B (S0 ++ [o]) F ρ H) : ∃ ρ0 a, ρ = ρ0 ++ [a] ∧ ρ0.length = S0.length := by
  have hl := R.len
  simp at hl
  obtain ⟨ρ0, a, e⟩ : ∃ ρ0 a, ρ = ρ0 ++ [a] := by
    rcases List.eq_nil_or_concat ρ with h | ⟨l, x, h⟩
    · rw [h] at hl; simp at hl
    · exact ⟨l, x, by simpa using h⟩
  exact ⟨ρ0, a, e, by rw [e] at hl; simp at hl; exact hl⟩
/-- the last cell is told as data: base's own cells alone -/
theorem Rel.frz (R : Rel K B (S0 ++ [o]) F ρ H) (ht : o.tree = some t) (hn : S0.length ∉ o.refs) : ∃ ρ0 a F', ρ = ρ0 ++ [a] ∧ ρ0.length = S0.length ∧ Ext F ρ0 F' ρ0 ∧ Rep K F' ρ0 (.ref a) t ∧ Rel K B (S0.map (Ob.sub S0.length t)) F' ρ0 H := by
  obtain ⟨ρ0, a, rfl, hl⟩ := R.split
  have hnd := R.nd
  rw [List.nodup_append] at hnd
  have ha : a ∉ ρ0 := fun z => hnd.2.2 a z a (by simp) rfl
  have hFa : F a = none := R.out' (k := S0.length) (by rw [← hl]; simp) (fun u kvs z => by
    rw [List.getElem?_append_right (Nat.le_refl _)] at z
    simp at z
    subst z; cases ht)
  have hat : RepO K B F (ρ0 ++ [a]) H a o := R.cell S0.length a o (by rw [← hl]; simp) (by simp)
  obtain ⟨u, hu⟩ := hat.at R.le
  have hF : ExtF F (upd F a u) := extF_upd hFa
  have e : Ext F ρ0 (upd F a u) ρ0 := ⟨hF, fun _ _ z => z⟩
  have hr : Rep K (upd F a u) ρ0 (.ref a) t := by
    rw [← hl] at hn
    cases o with
    | lst ds =>
      cases ht
      obtain ⟨vs, h1, h2⟩ := hat
      rw [hu] at h1; cases h1
      exact ⟨a, vs, rfl, upd_same, RepL.shr e (by simpa [Ob.refs] using hn) h2⟩
    | dct b kvs =>
      cases ht
      cases b with
      | false =>
        obtain ⟨ps, h1, h2⟩ := hat
        rw [hu] at h1; cases h1
        exact ⟨a, ps, rfl, .inl upd_same, RepK.shr e (by simpa [Ob.refs] using hn) h2⟩
      | true =>
        obtain ⟨ps, h1, h2⟩ := hat
        rw [hu] at h1; cases h1
        exact ⟨a, ps, rfl, .inl upd_same, RepT.shr e (by simpa [Ob.refs] using hn) h2⟩
    | ins c fs =>
      cases ht
      obtain ⟨dx, ps, h1, h2, h3⟩ := hat
      rw [hu] at h1; cases h1
      exact ⟨a, dx, ps, rfl, upd_same, e.f.ex h2, RepF.shr e (by simpa [Ob.refs] using hn) h3⟩
    | st g => cases ht
    | fz u kvs => cases ht
  refine ⟨ρ0, a, upd F a u, rfl, hl, e, hr, ⟨fun b v h => ?_, by simp [hl], hnd.1, fun k b hb => ?_, fun k b v q1 q2 => ?_, R.fr, fun b v h => ?_, fun b hb => R.cnew b (by simp [hb]), R.gr⟩⟩
  · by_cases hb : b = a
    · subst hb; rw [upd_same] at h; cases h; exact hu
    · rw [upd_ne hb] at h; exact R.le b v h
  · have hk : k < ρ0.length := (List.getElem?_eq_some_iff.mp hb).1
    rw [upd_ne (fun z => ha (by rw [← z]; exact List.mem_of_getElem? hb))]
    rcases R.out k b (by rw [List.getElem?_append_left hk]; exact hb) with z | ⟨u, kvs, z⟩
    · exact .inl z
    · rw [List.getElem?_append_left (by omega)] at z
      exact .inr ⟨u, subP S0.length t kvs, by rw [List.getElem?_map, z]; rfl⟩
  · rw [List.getElem?_map, Option.map_eq_some_iff] at q2
    obtain ⟨w, q2, rfl⟩ := q2
    have hk : k < ρ0.length := (List.getElem?_eq_some_iff.mp q1).1
    have base := R.cell k b w (by rw [List.getElem?_append_left hk]; exact q1) (by rw [List.getElem?_append_left (by omega)]; exact q2)
    rw [← hl]
    cases w with
    | lst ds => obtain ⟨vs, z1, z2⟩ := base; exact ⟨vs, z1, z2.sub e hr⟩
    | dct b kvs => cases b with
      | false => obtain ⟨vs, z1, z2⟩ := base; exact ⟨vs, z1, RepK.sub e hr z2⟩
      | true => obtain ⟨vs, z1, z2⟩ := base; exact ⟨vs, z1, RepT.sub e hr z2⟩
    | ins c fs => obtain ⟨dx, ps, z1, z2, z3⟩ := base; exact ⟨dx, ps, z1, e.f.ex z2, RepF.sub e hr z3⟩
    | fz u kvs => cases u with
      | false => obtain ⟨vs, z1, z2⟩ := base; exact ⟨vs, e.f.rd z1, RepK.sub e hr z2⟩
      | true => obtain ⟨vs, z1, z2⟩ := base; exact ⟨vs, e.f.rd z1, RepT.sub e hr z2⟩
    | st g =>
      obtain ⟨b0, b1, ns, ms, n, z1, z2, z3, z4, z5, z6, z7, z8, z9, z10⟩ := base
      refine ⟨b0, b1, ns, ms, n, z1, z2, e.f.ex z3, z4, z5, z6, z7, ?_, fun z => z9 (by simp [z]), z10⟩
      rw [upd_ne (fun z => z9 (by simp [z]))]; exact z8
  · by_cases hb : b = a
    · subst hb
      rcases R.cnew b (by simp) with y | y
      · exact .inr (.inr (.inr y))
      · exact .inr (.inl y)
    · rw [upd_ne hb] at h; exact R.new b v h
/-- the last cell is forgotten -/
theorem Rel.drop (R : Rel K B (S0 ++ [o]) F ρ H) (hn : ∀ w ∈ S0, S0.length ∉ w.refs) : ∃ ρ0 a, ρ = ρ0 ++ [a] ∧ ρ0.length = S0.length ∧ Rel K B S0 F ρ0 H := by
  obtain ⟨ρ0, a, rfl, hl⟩ := R.split
  have hnd := R.nd
  rw [List.nodup_append] at hnd
  have e : Ext F ρ0 F ρ0 := Ext.refl
  refine ⟨ρ0, a, rfl, hl, ⟨R.le, hl, hnd.1, fun k b hb => (by
    have hk : k < ρ0.length := (List.getElem?_eq_some_iff.mp hb).1
    have := R.out k b (by rw [List.getElem?_append_left hk]; exact hb)
    rwa [List.getElem?_append_left (by omega)] at this), fun k b w q1 q2 => ?_, R.fr, R.new, fun b hb => R.cnew b (by simp [hb]), R.gr⟩⟩
  have hk : k < ρ0.length := (List.getElem?_eq_some_iff.mp q1).1
  have base := R.cell k b w (by rw [List.getElem?_append_left hk]; exact q1) (by rw [List.getElem?_append_left (by omega)]; exact q2)
  have n := hn w (List.mem_of_getElem? q2)
  rw [← hl] at n
  cases w with
  | lst ds => obtain ⟨vs, z1, z2⟩ := base; exact ⟨vs, z1, z2.shr e (by simpa [Ob.refs] using n)⟩
  | dct b kvs => cases b with
    | false => obtain ⟨vs, z1, z2⟩ := base; exact ⟨vs, z1, RepK.shr e (by simpa [Ob.refs] using n) z2⟩
    | true => obtain ⟨vs, z1, z2⟩ := base; exact ⟨vs, z1, RepT.shr e (by simpa [Ob.refs] using n) z2⟩
  | ins c fs => obtain ⟨dx, ps, z1, z2, z3⟩ := base; exact ⟨dx, ps, z1, z2, RepF.shr e (by simpa [Ob.refs] using n) z3⟩
  | fz u kvs => cases u with
    | false => obtain ⟨vs, z1, z2⟩ := base; exact ⟨vs, z1, RepK.shr e (by simpa [Ob.refs] using n) z2⟩
    | true => obtain ⟨vs, z1, z2⟩ := base; exact ⟨vs, z1, RepT.shr e (by simpa [Ob.refs] using n) z2⟩
  | st g =>
    obtain ⟨b0, b1, ns, ms, n, z1, z2, z3, z4, z5, z6, z7, z8, z9, z10⟩ := base
    exact ⟨b0, b1, ns, ms, n, z1, z2, z3, z4, z5, z6, z7, z8, fun z => z9 (by simp [z]), z10⟩
end
end WM
set_option maxHeartbeats 1000000
namespace WM
open PySem PySem.Spec PyProof.Rows L2
abbrev Spc := List D → Store → QN → QX → Prop
def PostE (K : PySem.W.Frag) (B : Bs) (F : Hp) (ρ : List Addr) (Qx : QX) (E : XK) : Prop := ∀ c fs S dxo H' F' ρ', Qx c fs S → Rel K B S F' ρ' H' → Ext F ρ F' ρ' → ExcR K F' ρ' dxo fs → E (.ref (He.ga K c)) dxo H'
def spOf (K : PySem.W.Frag) (sp : Spc) : Sp := fun vs H Q E => ∃ B S F ρ ds Qn Qx, Rel K B S F ρ H ∧ RepL K F ρ vs ds ∧ sp ds S Qn Qx ∧ Post K B F ρ Qn Q ∧ PostE K B F ρ Qx E
/-- what a def is known by -/
abbrev FnW (P : Program) (w : World) (K : PySem.W.Frag) (mg : Str → Option Value) (base : Heap) (CX : CXT) (k : Nat) (f : Addr) (fd : FuncData) (ps : List Str) (sp : Spc) : Prop := FnOk P w K mg base CX k f fd ps (spOf K sp)
inductive Fz (m : Nat) : D → Store → D → Store → Prop
  | refl {d : D} {S : Store} : Fz m d S d S
  | frz {d d' t : D} {S S' : Store} {o : Ob} : m ≤ S.length → o.tree = some t → S.length ∉ o.refs → Fz m (D.sub S.length t d) (S.map (Ob.sub S.length t)) d' S' → Fz m d (S ++ [o]) d' S'
  | drop {d d' : D} {S S' : Store} {o : Ob} : m ≤ S.length → S.length ∉ d.refs → (∀ w ∈ S, S.length ∉ w.refs) → Fz m d S d' S' → Fz m d (S ++ [o]) d' S'
theorem ext_cut {F F' : Hp} {ρ ρ0 : List Addr} {a : Addr} (e : Ext F ρ F' (ρ0 ++ [a])) (h : ρ.length ≤ ρ0.length) : Ext F ρ F' ρ0 := ⟨e.f, fun k x hx => by
  have hk := (List.getElem?_eq_some_iff.mp hx).1
  have := e.c k x hx
  rw [List.getElem?_append_left (by omega)] at this
  exact this⟩
theorem Fz.rep {K : PySem.W.Frag} {B : Bs} {m : Nat} {d d' : D} {S S' : Store} (z : Fz m d S d' S') : ∀ {F0 F H : Hp} {r0 ρ : List Addr} {v : V}, r0.length = m → Rel K B S F ρ H → Ext F0 r0 F ρ → Rep K F ρ v d → ∃ F' ρ', Rel K B S' F' ρ' H ∧ Ext F0 r0 F' ρ' ∧ Rep K F' ρ' v d' := by
  induction z with
  | refl => intro F0 F H r0 ρ v hm R e r; exact ⟨F, ρ, R, e, r⟩
  | frz h1 h2 h3 _ ih =>
    intro F0 F H r0 ρ v hm R e r
    obtain ⟨ρ0, a, F', rfl, hl, e2, ht, R2⟩ := R.frz h2 h3
    refine ih hm R2 ((ext_cut e (by omega)).trans e2) ?_
    rw [← hl]
    exact Rep.sub e2 ht r
  | drop h1 h2 h3 _ ih =>
    intro F0 F H r0 ρ v hm R e r
    obtain ⟨ρ0, a, rfl, hl, R2⟩ := R.drop h3
    exact ih hm R2 (ext_cut e (by omega)) (r.shr Ext.refl (by rw [hl]; exact h2))
/-- the same for an exception's fields -/
inductive FzX (m : Nat) : List (String × D) → Store → List (String × D) → Store → Prop
  | refl {d : List (String × D)} {S : Store} : FzX m d S d S
  | frz {d d' : List (String × D)} {t : D} {S S' : Store} {o : Ob} : m ≤ S.length → o.tree = some t → S.length ∉ o.refs → FzX m (subF S.length t d) (S.map (Ob.sub S.length t)) d' S' → FzX m d (S ++ [o]) d' S'
  | drop {d d' : List (String × D)} {S S' : Store} {o : Ob} : m ≤ S.length → S.length ∉ refsF d → (∀ w ∈ S, S.length ∉ w.refs) → FzX m d S d' S' → FzX m d (S ++ [o]) d' S'
theorem subF_nil {n : Nat} {t : D} {fs : List (String × D)} (h : subF n t fs = []) : fs = [] := by
  cases fs with
  | nil => rfl
  | cons f fs => obtain ⟨a, b⟩ := f; simp [subF] at h
theorem FzX.rep {K : PySem.W.Frag} {B : Bs} {m : Nat} {d d' : List (String × D)} {S S' : Store} (z : FzX m d S d' S') : ∀ {F0 F H : Hp} {r0 ρ : List Addr} {dxo : Option Addr}, r0.length = m → Rel K B S F ρ H → Ext F0 r0 F ρ → ExcR K F ρ dxo d → ∃ F' ρ', Rel K B S' F' ρ' H ∧ Ext F0 r0 F' ρ' ∧ ExcR K F' ρ' dxo d' := by
  induction z with
  | refl => intro F0 F H r0 ρ v hm R e r; exact ⟨F, ρ, R, e, r⟩
  | frz h1 h2 h3 _ ih =>
    intro F0 F H r0 ρ v hm R e r
    obtain ⟨ρ0, a, F', rfl, hl, e2, ht, R2⟩ := R.frz h2 h3
    refine ih hm R2 ((ext_cut e (by omega)).trans e2) ?_
    rw [← hl]
    rcases r with ⟨r1, r2⟩ | ⟨dd, ps, r1, r2, r3, r4⟩
    · exact .inl ⟨by rw [r1]; rfl, r2⟩
    · exact .inr ⟨dd, ps, r1, e2.f.ex r2, RepF.sub e2 ht r3, fun z => r4 (subF_nil z)⟩
  | drop h1 h2 h3 _ ih =>
    intro F0 F H r0 ρ v hm R e r
    obtain ⟨ρ0, a, rfl, hl, R2⟩ := R.drop h3
    refine ih hm R2 (ext_cut e (by omega)) ?_
    rcases r with ⟨r1, r2⟩ | ⟨dd, ps, r1, r2, r3, r4⟩
    · exact .inl ⟨r1, r2⟩
    · exact .inr ⟨dd, ps, r1, r2, RepF.shr Ext.refl (by rw [hl]; exact h2) r3, r4⟩
def fin (m : Nat) (Q : QN) : QN := fun d S => ∃ d' S', Fz m d S d' S' ∧ Q d' S'
def finX (m : Nat) (X : QX) : String → List (String × D) → Env → Store → Prop := fun c fs _ S => ∃ fs' S', FzX m fs S fs' S' ∧ X c fs' S'
def kt (m : Nat) (Q : QN) (X : QX) : Kt := { nx := fun _ S => fin m Q .non S, rt := fin m Q, bk := fun _ _ => False, ct := fun _ _ => False, ex := finX m X }
def envOf (n : Nat) (ds : List D) : Env := ds.map some ++ List.replicate (n - ds.length) none
mutual
theorem Rep.bound {K : PySem.W.Frag} {F : Hp} {ρ : List Addr} : ∀ {d : D} {v : V}, Rep K F ρ v d → ∀ k ∈ d.refs, k < ρ.length
  | .cell k, _, ⟨b, h1, _⟩, j, hj => by simp [D.refs] at hj; subst hj; exact (List.getElem?_eq_some_iff.mp h1).1
  | .tup ds, _, ⟨b, vs, _, _, h3⟩, j, hj => RepL.bound h3 j (by simpa [D.refs] using hj)
  | .lst ds, _, ⟨b, vs, _, _, h3⟩, j, hj => RepL.bound h3 j (by simpa [D.refs] using hj)
  | .dct false kvs, _, ⟨b, ps, _, _, h3⟩, j, hj => RepK.bound h3 j (by simpa [D.refs] using hj)
  | .dct true kvs, _, ⟨b, ps, _, _, h3⟩, j, hj => RepT.bound h3 j (by simpa [D.refs] using hj)
  | .ins c fs, _, ⟨b, dx, ps, _, _, _, h4⟩, j, hj => RepF.bound h4 j (by simpa [D.refs] using hj)
  | .non, _, _, j, hj => by simp [D.refs] at hj
  | .bl _, _, _, j, hj => by simp [D.refs] at hj
  | .int _, _, _, j, hj => by simp [D.refs] at hj
  | .str _, _, _, j, hj => by simp [D.refs] at hj
  | .scr _, _, _, j, hj => by simp [D.refs] at hj
  | .fn _, _, _, j, hj => by simp [D.refs] at hj
  | .er c fs, _, ⟨b, d, ps, _, _, _, h4⟩, j, hj => RepF.bound h4 j (by simpa [D.refs] using hj)
theorem RepL.bound {K : PySem.W.Frag} {F : Hp} {ρ : List Addr} : ∀ {ds : List D} {vs : List V}, RepL K F ρ vs ds → ∀ k ∈ refsL ds, k < ρ.length
  | [], [], _, j, hj => by simp [refsL] at hj
  | d :: ds, v :: vs, ⟨h1, h2⟩, j, hj => by
    simp only [refsL, List.mem_append] at hj
    exact hj.elim (Rep.bound h1 j) (RepL.bound h2 j)
  | [], _ :: _, h, _, _ => h.elim
  | _ :: _, [], h, _, _ => h.elim
theorem RepK.bound {K : PySem.W.Frag} {F : Hp} {ρ : List Addr} : ∀ {ds : List (D × D)} {vs : List (Key × V)}, RepK K F ρ vs ds → ∀ k ∈ refsP ds, k < ρ.length
  | [], [], _, j, hj => by simp [refsP] at hj
  | (_, _) :: ds, (k, _) :: vs, ⟨h0, h1, h2⟩, j, hj => by
    simp only [refsP, List.mem_append] at hj
    rcases hj with hj | hj | hj
    · rw [← h0] at hj; cases k <;> simp [kOf, D.refs] at hj
    · exact Rep.bound h1 j hj
    · exact RepK.bound h2 j hj
  | [], _ :: _, h, _, _ => h.elim
  | _ :: _, [], h, _, _ => h.elim
theorem RepT.bound {K : PySem.W.Frag} {F : Hp} {ρ : List Addr} : ∀ {ds : List (D × D)} {vs : List (List Key × V)}, RepT K F ρ vs ds → ∀ k ∈ refsP ds, k < ρ.length
  | [], [], _, j, hj => by simp [refsP] at hj
  | (_, _) :: ds, (k, _) :: vs, ⟨h0, h1, h2⟩, j, hj => by
    simp only [refsP, List.mem_append] at hj
    rcases hj with hj | hj | hj
    · rw [← h0] at hj
      simp only [D.refs] at hj
      have : ∀ l : List Key, refsL (l.map kOf) = [] := fun l => by
        induction l with
        | nil => rfl
        | cons a r ih => cases a <;> simp [refsL, kOf, D.refs, ih]
      rw [this k] at hj; cases hj
    · exact Rep.bound h1 j hj
    · exact RepT.bound h2 j hj
  | [], _ :: _, h, _, _ => h.elim
  | _ :: _, [], h, _, _ => h.elim
theorem RepF.bound {K : PySem.W.Frag} {F : Hp} {ρ : List Addr} : ∀ {ds : List (String × D)} {vs : List (Str × V)}, RepF K F ρ vs ds → ∀ k ∈ refsF ds, k < ρ.length
  | [], [], _, j, hj => by simp [refsF] at hj
  | (_, _) :: ds, (_, _) :: vs, ⟨h0, h1, h2⟩, j, hj => by
    simp only [refsF, List.mem_append] at hj
    exact hj.elim (Rep.bound h1 j) (RepF.bound h2 j)
  | [], _ :: _, h, _, _ => h.elim
  | _ :: _, [], h, _, _ => h.elim
end
theorem Rel.wf {K : PySem.W.Frag} {B : Bs} {S : Store} {F H : Hp} {ρ : List Addr} (R : Rel K B S F ρ H) : wf S := fun o ho k hk => by
  obtain ⟨j, hj, e⟩ := List.mem_iff_getElem.mp ho
  have hj2 : j < ρ.length := by rw [R.len]; exact hj
  have base := R.cell j ρ[j] o (by simp [hj2]) (by simp [hj, e])
  rw [← R.len]
  cases o with
  | lst ds => obtain ⟨vs, _, z⟩ := base; exact z.bound k (by simpa [Ob.refs] using hk)
  | dct b kvs => cases b with
    | false => obtain ⟨vs, _, z⟩ := base; exact RepK.bound z k (by simpa [Ob.refs] using hk)
    | true => obtain ⟨vs, _, z⟩ := base; exact RepT.bound z k (by simpa [Ob.refs] using hk)
  | fz b kvs => cases b with
    | false => obtain ⟨vs, _, z⟩ := base; exact RepK.bound z k (by simpa [Ob.refs] using hk)
    | true => obtain ⟨vs, _, z⟩ := base; exact RepT.bound z k (by simpa [Ob.refs] using hk)
  | ins c fs => obtain ⟨_, _, _, _, z⟩ := base; exact RepF.bound z k (by simpa [Ob.refs] using hk)
  | st g => simp [Ob.refs] at hk
section
variable {P : Program} {w : World} {K : PySem.W.Frag} {mg : Str → Option Value} {base : Heap} {x qual : Str} {params : Arguments} {body : List Stmt} {scope : Scope} {dvs : List V} {kws : List (Str × V)} {f : Addr} {fd : FuncData}
theorem envOf_rel {F : Hp} {ρ : List Addr} {ds : List D} {vs : List V} (r : RepL K F ρ vs ds) (N : List Str) : EnvR K none F ρ (envOf N.length ds) (L2.start N vs) := by
  refine ⟨by unfold envOf L2.start; simp [r.length], fun i d h => ?_⟩
  unfold envOf at h
  by_cases hi : i < ds.length
  · rw [List.getElem?_append_left (by simpa using hi), List.getElem?_map] at h
    cases e : ds[i]? with
    | none => rw [e] at h; cases h
    | some d' =>
      rw [e] at h; cases h
      obtain ⟨v, h1, h2⟩ := r.get e
      refine ⟨v, ?_, h2⟩
      unfold L2.start
      rw [List.getElem?_append_left (by simp [r.length]; exact hi), List.getElem?_map, h1]
      rfl
  · rw [List.getElem?_append_right (by simp; omega)] at h
    rw [List.getElem?_replicate] at h
    split at h <;> cases h
/-- THE RULE for a def: its body's wp keeps the promise. E: what it may let out -/
theorem fn_ok {CX : CXT} {N ps : List Str} {k : Nat} {sp : Spc} (F : FunD K x qual params body scope dvs kws f fd) (S : FnScope N ps scope) (len : ∀ ds S Q X, sp ds S Q X → ds.length = ps.length) (w0 : WS)
    (walk : ∀ (cdv : Value) (A : Around) (outer : List PySem.Env) (s : Shared) (H : Hp) (E : XK) (B : Bs), Room k (A.deeper (envOfC qual scope s.heap.objs.size f cdv)) → PSs (cxOf CX P w K mg base N qual scope f cdv A outer s H E) body (tS K none B (fun cls d _ H => E cls d H) w0))
    (law : ∀ ds S Q X, wf S → (∀ k ∈ refsL ds, k < S.length) → sp ds S Q X → w0 (envOf N.length ds) S (kt S.length Q X)) : FnW P w K mg base CX (k + 1) f fd ps sp := by
  refine F.ok S (fun vs H Q E h => ?_) (fun cdv A outer s H vs Q E hr h => ?_)
  · obtain ⟨B, S, F, ρ, ds, Qn, Qx, R, rr, hsp, _⟩ := h
    rw [rr.length]; exact len _ _ _ _ hsp
  · obtain ⟨B, S, F, ρ, ds, Qn, Qx, R, rr, hsp, P1, P2⟩ := h
    refine ⟨fun D σ H' => ∃ B', tS K none B' (fun cls d _ H => E cls d H) w0 D σ H', ⟨fun pins s' σ H' D I ⟨B', q⟩ => (walk cdv A outer s H E B' hr).run pins s' σ H' D I q⟩, ?_⟩
    have hl := R.len
    have out : ∀ d S' v H' F' ρ', fin S.length Qn d S' → Rel K (sub S F ρ H) S' F' ρ' H' → Ext F ρ F' ρ' → Rep K F' ρ' v d → Q v H' := by
      rintro d S' v H' F' ρ' ⟨d2, S2, z, q⟩ R' e' r'
      obtain ⟨F2, ρ2, R2, e2, r2⟩ := z.rep hl R' e' r'
      exact P1 _ _ _ _ _ _ q (R.leave R2 e2) e2 r2
    refine ⟨sub S F ρ H, envOf N.length ds, S, F, ρ, kt S.length Qn Qx, R.enter, envOf_rel rr N, law ds S Qn Qx R.wf (by rw [← R.len]; exact rr.bound) hsp, ⟨fun env S' σ H' F' ρ' q R' e' E' => ?_, fun d S' v H' F' ρ' q R' e' r' => ?_, fun _ _ _ _ _ _ q => q.elim, fun _ _ _ _ _ _ q => q.elim, fun c fs env S' dxo σ H' F' ρ' q R' e' E' r' => ?_⟩⟩
    · exact out _ _ _ _ _ _ q R' e' rfl
    · exact out _ _ _ _ _ _ q R' e' r'
    · obtain ⟨fs2, S2, z, q⟩ := q
      obtain ⟨F2, ρ2, R2, e2, r2⟩ := z.rep hl R' e' r'
      exact P2 _ _ _ _ _ _ _ q (R.leave R2 e2) e2 r2
end
def wCall (sp : Spc) (dfl : List D) (w : WL) : WE := fun σ S Q X => w σ S (fun ds S1 => sp (ds ++ dfl) S1 Q X) X
section
variable {X : Cx} {xi : Xi} {B : Bs} {W : WX} {CX : CXT} {k : Nat} {f : Addr} {fd : FuncData} {ps : List Str} {sp : Spc} {x : Str} {p pos : Pos} {e : Expr} {es : List Expr} {w : WL}
theorem call_w {σ : L2.St} {H : Hp} {Q : VK} {dvs : List V} {dfl : List D} (hd : ∀ F ρ, RepL X.K F ρ dvs dfl) (h : tE X.K xi B W (wCall sp dfl w) σ H Q) : tCallSD (spOf X.K sp) dvs (L2.WE W) (tL X.K xi B W w) σ H Q := by
  obtain ⟨env, S, F, ρ, Qn, Qx, R, E, h2, P, PX⟩ := h
  refine ⟨env, S, F, ρ, _, Qx, R, E, h2, fun ds S1 vs H1 F1 ρ1 q R1 e1 r1 => ?_, PX⟩
  exact ⟨B, S1, F1, ρ1, ds ++ dfl, Qn, Qx, R1, r1.append (hd _ _), q, P.ext e1, fun c fs S' dxo H' F' ρ' q' R' e' r' => PX c fs S' dxo H' F' ρ' q' R' (e1.trans e') r'⟩
/-- f(e, ..): an own def; the defaults that fill up: dfl -/
theorem e_fn {dvs : List V} {ds : List Value} {dfl : List D} (F : FnW X.prog X.w X.K X.mg X.base CX k f fd ps sp) (hr : Room k X.A) (hm : X.mg x = some (.ref f)) (hk : PySem.W.keepIn X.K (.ref f) = true) (hb : Binds X.K fd ps ds) (hd : Vals dvs ds) (hdf : ∀ F ρ, RepL X.K F ρ dvs dfl)
    (hx : ∀ σ, PassesAt CX X σ (L2.WE W σ)) (ha : PA X (e :: es) (tL X.K xi B W w)) (hg : Gl X x := by rfl) (hdb : (x == ("__debug__" : Str)) = false := by decide) (he : starEach (e :: es) X.env = (false, eval e X.env) :: starEach es X.env := by rfl) (hpl : (backTo pos (starEach es X.env)).any (·.1) = false := by rfl) :
    PE X (.Call (.Name x p) (e :: es) [] pos) (tE X.K xi B W (wCall sp dfl w)) :=
  (pe_callSD F hr hg hm hk hb hd hx ha hdb he hpl).weak fun σ H Q h => call_w hdf h
end
end WM
set_option maxHeartbeats 1000000
namespace WM
open PySem PySem.Spec PyProof.Rows L2
structure StO (H : Hp) (p a0 a1 : Addr) (ns ms : List Int) (n : Int) : Prop where
  h : H p = some (.lst [.ref a0, .ref a1, .int n])
  h0 : H a0 = some (.lst (ns.map .int))
  h1 : H a1 = some (.lst (ms.map .int))
  e : ms ≠ []
  l : ms.length ≤ 100
  n0 : 0 ≤ n
  d : a0 ≠ a1
def spDraw : Sp := fun vs H Q _ => ∃ (p a0 a1 : Addr) (ns ms : List Int) (n m : Int), vs = [.ref p, .int m] ∧ StO H p a0 a1 ns ms n ∧ n < 2 ^ 37 ∧ 0 < m ∧ m < 1073741824 ∧
  ∀ H' a0' ns' r, StO H' p a0' a1 ns' ms (n + 1) → (a0' = a0 ∨ H a0' = none) → (∀ b, b ≠ p → b ≠ a0 → H b ≠ none → H' b = H b) → H' a0 ≠ none → 0 ≤ r → r < m → Q (.int r) H'
def Kp (H H' : Hp) : Prop := ∀ b o, H b = some o → H' b = some o
def spStart (K : PySem.W.Frag) : Sp := fun vs H Q _ => ∃ (a : Addr) (ns : List Int), vs = [.ref a] ∧ SqL K H a (ns.map .int) ∧ ns.length ≤ 63 ∧
  ∀ H' p a0 a1 xs ms, StO H' p a0 a1 xs ms 0 → Kp H H' → H p = none → H a0 = none → H a1 = none → Q (.ref p) H'
def noSt (T : Store) : Prop := ∀ o ∈ T, ∀ g, o ≠ .st g
/-- a draw -/
def dDraw : Spc := fun ds S Q _ => ∃ g T m, ds = [.cell 0, .int m] ∧ S = .st (g + 1) :: T ∧ noSt T ∧ 0 < m ∧ m < 1073741824 ∧ ∀ r : Int, 0 ≤ r → r < m → Q (.int r) (.st g :: T)
def dStart : Spc := fun ds S Q _ => ∃ ns : List Int, ds = [.scr ns] ∧ S = [] ∧ ns.length ≤ 63 ∧ Q (.cell 0) [.st budget]
theorem draw_w {K : PySem.W.Frag} {vs : List V} {H : Hp} {Q : VK} {E : XK} (h : spOf K dDraw vs H Q E) : spDraw vs H Q E := by
  obtain ⟨B, S, F, ρ, ds, Qn, Qx, R, rr, ⟨g, T, m, rfl, rfl, hT, hm0, hm1, q⟩, P1, _⟩ := h
  obtain ⟨v, u, rfl, ⟨p, hp, rfl⟩, ru⟩ := repL2 rr
  cases (show u = .int m from ru)
  obtain ⟨a0, a1, ns, ms, n, h1, h2, h3, h4, h5, h6, h7, h8, h9, h10⟩ := R.cell 0 p (.st (g + 1)) hp rfl
  have h7' : n + (g + 1 : Nat) ≤ (2 : Int) ^ 36 := by
    have : (budget : Int) = 2 ^ 36 := by decide
    omega
  have hd : a0 ≠ a1 := fun z => by rw [z] at h8; rw [h8] at h3; cases h3
  refine ⟨p, a0, a1, ns, ms, n, m, rfl, ⟨h1, h2, R.le _ _ h3, h4, h5, h6, hd⟩, by omega, hm0, hm1, fun H' a0' ns' r st ha hk hg r0 r1 => ?_⟩
  have hpρ : p ∈ ρ := List.mem_of_getElem? hp
  have hFp : F p = none := R.out' hp (fun _ _ z => by cases z)
  have keepF : ∀ b u, F b = some u → H' b = some u := fun b u hb => by
    have hH := R.le _ _ hb
    rw [hk b (fun z => by rw [z, hFp] at hb; cases hb) (fun z => by rw [z, h8] at hb; cases hb) (by rw [hH]; simp)]
    exact hH
  have keepρ : ∀ b, b ∈ ρ → b ≠ p → ∀ u, H b = some u → H' b = some u := fun b hb hne u hu => by
    rw [hk b hne (fun z => h9 (by rw [← z]; exact hb)) (by rw [hu]; simp)]; exact hu
  have fa0 : F a0' = none ∧ a0' ∉ ρ ∧ (B.im a0' ∨ B.H0 a0' = none) := by
    rcases ha with e | e
    · rw [e]; exact ⟨h8, h9, h10⟩
    · obtain ⟨y1, y2, y3⟩ := R.fresh e
      exact ⟨y1, y2, .inr y3⟩
  have a1eq : H' a1 = some (.lst (ms.map .int)) := st.h1
  refine P1 _ (.st g :: T) _ H' F ρ (q r r0 r1) ⟨keepF, R.len, R.nd, fun i b hb => (by cases i with
    | zero => rw [hp] at hb; cases hb; exact .inl hFp
    | succ i => exact R.out (i + 1) b hb), fun i b w q1 q2 => ?_, fun b o hb hn => ?_, R.new, R.cnew, fun b hb => ?_⟩ Ext.refl rfl
  · cases i with
    | zero =>
      rw [hp] at q1; cases q1
      cases q2
      exact ⟨a0', a1, ns', ms, n + 1, st.h, st.h0, h3, h4, h5, by omega, by omega, fa0.1, fa0.2.1, fa0.2.2⟩
    | succ i =>
      have hb : b ∈ ρ := List.mem_of_getElem? q1
      have hne : b ≠ p := fun z => by
        subst z
        have x1 := List.getElem?_eq_some_iff.mp q1
        have x2 := List.getElem?_eq_some_iff.mp hp
        have := (List.getElem_inj R.nd).mp (x1.2.trans x2.2.symm)
        omega
      have base := R.cell (i + 1) b w q1 (by simpa using q2)
      have hw : w ∈ T := List.mem_of_getElem? (by simpa using q2)
      cases w with
      | lst ds => obtain ⟨vs, z1, z2⟩ := base; exact ⟨vs, keepρ b hb hne _ z1, z2⟩
      | dct t kvs => cases t with
        | false => obtain ⟨vs, z1, z2⟩ := base; exact ⟨vs, keepρ b hb hne _ z1, z2⟩
        | true => obtain ⟨vs, z1, z2⟩ := base; exact ⟨vs, keepρ b hb hne _ z1, z2⟩
      | ins c fs => obtain ⟨dx, ps, z1, z2, z3⟩ := base; exact ⟨dx, ps, keepρ b hb hne _ z1, z2, z3⟩
      | fz t kvs => cases t <;> exact base
      | st g' => exact absurd rfl (hT _ hw g')
  · have ni1 : b ≠ p := fun z => by
      rcases R.cnew p hpρ with y | y
      · exact hn (z ▸ y)
      · rw [z, y] at hb; cases hb
    have ni2 : b ≠ a0 := fun z => by
      rcases h10 with y | y
      · exact hn (z ▸ y)
      · rw [z, y] at hb; cases hb
    have gb : H b ≠ none := R.gr b (by rw [hb]; simp)
    rcases R.fr b o hb hn with y | ⟨y1, y2, ob, y3⟩
    · exact .inl (by rw [hk b ni1 ni2 gb]; exact y)
    · exact .inr ⟨y1, y2, ob, by rw [hk b ni1 ni2 gb]; exact y3⟩
  · by_cases x1 : b = p
    · rw [x1, st.h]; simp
    by_cases x2 : b = a0
    · rw [x2]; exact hg
    · rw [hk b x1 x2 (R.gr b hb)]; exact R.gr b hb
theorem start_w {K : PySem.W.Frag} {vs : List V} {H : Hp} {Q : VK} {E : XK} (h : spOf K dStart vs H Q E) : spStart K vs H Q E := by
  obtain ⟨B, S, F, ρ, ds, Qn, Qx, R, rr, ⟨ns, rfl, rfl, hl, q⟩, P1, _⟩ := h
  obtain ⟨v, rfl, ⟨a, rfl, ha⟩⟩ := repL1 rr
  have hρ : ρ = [] := List.eq_nil_of_length_eq_zero R.len
  subst hρ
  have hs : SqL K H a (ns.map .int) := by
    rcases ha with (ha | ⟨ob, ha⟩) | ha
    · exact .inl (.inl (R.le _ _ ha))
    · exact .inl (.inr ⟨ob, R.le _ _ ha⟩)
    · exact .inr ha
  refine ⟨a, ns, rfl, hs, hl, fun H' p a0 a1 xs ms st kp hp h0 h1 => ?_⟩
  obtain ⟨f1, _, b1⟩ := R.fresh h1
  obtain ⟨f0, _, b0⟩ := R.fresh h0
  obtain ⟨fp, _, bp⟩ := R.fresh hp
  have n10 : a1 ≠ a0 := st.d.symm
  have np0 : p ≠ a0 := ne_of st.h st.h0 (fun z => by cases xs <;> simp at z)
  have np1 : p ≠ a1 := ne_of st.h st.h1 (fun z => by cases ms <;> simp at z)
  have e : Ext F [] (upd F a1 (.lst (ms.map .int))) [p] := ⟨extF_upd f1, fun k b z => by simp at z⟩
  refine P1 _ _ _ H' _ [p] q ⟨fun b u hb => ?_, rfl, by simp, fun k b hb => ?_, fun k b o q1 q2 => ?_, fun b o hb hn => ?_, fun b o hb => ?_, fun b hb => ?_, fun b hb => ?_⟩ e ⟨p, rfl, rfl⟩
  · by_cases x : b = a1
    · rw [x, upd_same] at hb; cases hb; rw [x]; exact st.h1
    · rw [upd_ne x] at hb; exact kp _ _ (R.le _ _ hb)
  · cases k with
    | succ k => simp at hb
    | zero => simp at hb; subst hb; rw [upd_ne np1]; exact .inl fp
  · cases k with
    | succ k => simp at q1
    | zero =>
      simp at q1 q2
      subst q1 q2
      refine ⟨a0, a1, xs, ms, 0, st.h, st.h0, upd_same, st.e, st.l, by omega, by omega, ?_, ?_, .inr b0⟩
      · rw [upd_ne st.d]; exact f0
      · simp; exact np0.symm
  · rcases R.fr b o hb hn with y | ⟨y1, y2, ob, y3⟩
    · exact .inl (kp _ _ y)
    · exact .inr ⟨y1, y2, ob, kp _ _ y3⟩
  · by_cases x : b = a1
    · exact .inr (.inl (x ▸ b1))
    · rw [upd_ne x] at hb; exact R.new b o hb
  · simp at hb; subst hb; exact .inr bp
  · have := R.gr b hb
    cases y : H b with
    | none => exact absurd y this
    | some u => rw [kp _ _ y]; simp
/-- the law's own promise at its entry -/
theorem law_w {K : PySem.W.Frag} {sp : Spc} {H : Hp} {Q : VK} {E : XK} {a : Addr} {ns : List Int} (hs : SqL K H a (ns.map .int)) (h : ∀ Q' X', (∀ S, Q' (.bl true) S) → sp [.scr ns] [] Q' X') (q : ∀ H', Q (.bl true) H') : spOf K sp [.ref a] H Q E := by
  refine ⟨⟨H, H, fun _ => False⟩, [], H, [], [.scr ns], fun d _ => d = .bl true, fun _ _ _ => False, ⟨fun _ _ h => h, rfl, List.nodup_nil, fun _ _ h => by simp at h, fun _ _ _ h _ => by simp at h, fun _ _ h _ => .inl h, fun a o h => .inl (by show H a ≠ none; rw [h]; simp), fun _ h => by simp at h, fun _ h => h⟩,
    ⟨⟨a, rfl, hs⟩, True.intro⟩, h _ _ fun _ => rfl, fun d S v H' F' ρ' hd R e r => ?_, fun _ _ _ _ _ _ _ z => z.elim⟩
  subst hd
  rw [show v = .bl true from r]
  exact q H'
end WM
set_option maxHeartbeats 1000000
namespace WM
open PySem PySem.Spec PyProof.Rows L2
section
variable {X : Cx} {xi : Xi} {B : Bs} {W : WX} {elt tg iter : Expr} {ifs : List Expr} {scope : Scope} {own : List (Str × Nat)} {pos : Pos} {i : WI} {g : TG} {b : D → Env → (Env → Prop) → Prop} {t : WT} {e : WE}
theorem n_comp (hc : X.calm = true) (hN : X.N.Nodup) (hi : PI X tg iter (tI X.K xi B W i)) (ok : BlkOk X.N X.env.scope scope own) (hg : ∀ (s : Shared) (H : Hp) (C : Addr) (cl : List (Str × Addr)) (fp : List Addr), PG (X.blk s H scope (compEnvC scope cl C X.env) fp) tg g)
    (hb : TgR X.K xi (own.map (·.2)) g b) (ht : ∀ (B' : Bs) (s : Shared) (H : Hp) (C : Addr) (cl : List (Str × Addr)) (fp : List Addr), PTs (X.blk s H scope (compEnvC scope cl C X.env) fp) ifs (tT X.K xi B' W0 t))
    (he : ∀ (B' : Bs) (s : Shared) (H : Hp) (C : Addr) (cl : List (Str × Addr)) (fp : List Addr), PE (X.blk s H scope (compEnvC scope cl C X.env) fp) elt (tE X.K xi B' W0 e)) (hs : ∀ x, foldedSetIterable iter X.env x = pure x := by intro _; rfl) :
    PE X (.ListComp elt [⟨tg, iter, ifs, 0⟩] scope pos) (tN X.K xi B W (wComp (own.map (·.2)) b i t e)) :=
  (pe_lc hc hN hi ok hg (fun s H C cl fp => PTs.exi fun B' => ht B' s H C cl fp) (fun s H C cl fp => PE.exi fun B' => he B' s H C cl fp) hs).weak fun σ H Q h => comp_w hb h
end
end WM
set_option maxHeartbeats 1000000
namespace WM
open PySem PySem.Spec PyProof.Rows L2
/-- a method by values: what comes back, the store then -/
def rM (K : PySem.W.Frag) (B : Bs) (f : Store → D → List D → Option (D × Store)) : V → List V → Hp → VK → Prop := fun v vs H Q => ∃ S F ρ x ds d S', Rel K B S F ρ H ∧ Rep K F ρ v x ∧ RepL K F ρ vs ds ∧ f S x ds = some (d, S') ∧
  ∀ u H' F' ρ', Rel K B S' F' ρ' H' → Ext F ρ F' ρ' → Rep K F' ρ' u d → Q u H'
def isLst (S : Store) (x : D) : Prop := ∃ ds, getL S x = some ds
def wBM (ty : Store → D → Prop) (f : Store → D → List D → Option (D × Store)) (a : WE) (w : WL) : WE := fun σ S Q X => a σ S (fun x S1 => ty S1 x ∧ w σ S1 (fun ds S2 => ∃ d S3, f S2 x ds = some (d, S3) ∧ Q d S3) X) X
def wBMN (ty : Store → D → Prop) (f : Store → D → List D → Option (List D)) (a : WE) (w : WL) : WL := fun σ S Q X => a σ S (fun x S1 => ty S1 x ∧ w σ S1 (fun ds S2 => ∃ es, f S2 x ds = some es ∧ Q es S2) X) X
section
variable {X : Cx} {xi : Xi} {B : Bs} {W : WX}
theorem ty_lst {S : Store} {F H : Hp} {ρ : List Addr} {v : V} {x : D} (R : Rel X.K B S F ρ H) (r : Rep X.K F ρ v x) (h : isLst S x) : tyV X.K "list" v H := by
  obtain ⟨ds, h⟩ := h
  obtain ⟨a, vs, rfl, ha, _⟩ := rep_lst R r (getL_iff.mp h)
  exact .inl ⟨rfl, vs, SqL.of ha⟩
section
variable {T : String} {ty : Store → D → Prop} {f : Store → D → List D → Option (D × Store)} {fn : Store → D → List D → Option (List D)} {e : Expr} {a : WE} {w : WL}
theorem e_bm (hty : ∀ {S : Store} {F H : Hp} {ρ : List Addr} {v : V} {x : D}, Rel X.K B S F ρ H → Rep X.K F ρ v x → ty S x → tyV X.K T v H) (h : PE X e (tBM X.K T (rM X.K B f) (tE X.K xi B W a) (tL X.K xi B W w))) : PE X e (tE X.K xi B W (wBM ty f a w)) :=
  h.weak fun σ H Q ⟨env, S, F, ρ, Qn, Qx, R, E, h2, P, PX⟩ => ⟨env, S, F, ρ, _, Qx, R, E, h2, fun x S1 v H1 F1 ρ1 ⟨t1, q1⟩ R1 e1 r1 => ⟨hty R1 r1 t1, env, S1, F1, ρ1, _, Qx, R1, E.mono e1, q1,
    fun ds S2 vs H2 F2 ρ2 ⟨d, S3, q2, q3⟩ R2 e2 r2 => ⟨S2, F2, ρ2, x, ds, d, S3, R2, r1.mono e2, r2, q2, fun u H' F' ρ' R' e' r' => P _ _ _ _ _ _ q3 R' ((e1.trans e2).trans e') r'⟩, PX.ext e1⟩, PX⟩
end
/-- a list's cell -/
def lstC (S : Store) (x : D) : Option (Nat × List D) := match x with
  | .cell k => match S[k]? with
    | some (.lst ds) => some (k, ds)
    | _ => none
  | _ => none
theorem lstC_at {K : PySem.W.Frag} {S : Store} {F H : Hp} {ρ : List Addr} {v : V} {x : D} {k : Nat} {ds : List D} (R : Rel K B S F ρ H) (r : Rep K F ρ v x) (h : lstC S x = some (k, ds)) : ∃ a vs, v = .ref a ∧ ρ[k]? = some a ∧ H a = some (.lst vs) ∧ RepL K F ρ vs ds := by
  unfold lstC at h
  split at h
  · split at h
    · rename_i j _ es hS
      cases h
      obtain ⟨a, ha, rfl⟩ := r
      obtain ⟨vs, h1, h2⟩ := R.cell _ a _ ha hS
      exact ⟨a, vs, rfl, ha, h1, h2⟩
    · cases h
  · cases h
theorem Rel.wl {K : PySem.W.Frag} {S : Store} {F H : Hp} {ρ : List Addr} {a : Addr} {k : Nat} {vs : List V} {ds : List D} (R : Rel K B S F ρ H) (h : ρ[k]? = some a) {us : List V} (hH : H a = some (.lst us)) (r : RepL K F ρ vs ds) : Rel K B (S.set k (.lst ds)) F ρ (upd H a (.lst vs)) := R.write h (R.nfH h hH (fun _ z => by cases z) (fun _ z => by cases z) fun _ _ z => by cases z) ⟨vs, upd_same, r⟩
def fApp (S : Store) (x : D) : List D → Option (D × Store)
  | [y] => (lstC S x).bind fun p => guard (p.2.length < sizeLine) (.non, S.set p.1 (.lst (p.2 ++ [y])))
  | _ => none
theorem m_append : MtR X "list.append" (rM X.K B fApp) := by
  intro pins s σ H v vs v' us Q I rv rvs h
  obtain ⟨S, F, ρ, x, ds, d, S', R, rx, rl, e, q⟩ := h
  unfold fApp at e
  split at e
  · obtain ⟨u, rfl, ru⟩ := repL1 rl
    rw [Option.bind_eq_some_iff] at e
    obtain ⟨⟨k, es⟩, h1, h2⟩ := e
    rw [guard_some] at h2
    obtain ⟨hz, h2⟩ := h2
    cases h2
    obtain ⟨a, xs, rfl, ha, hH, rr⟩ := lstC_at R rx h1
    exact mt_append pins s σ H _ _ v' us Q I rv rvs ⟨a, xs, u, rfl, rfl, hH, by rw [rr.length]; exact hz, q _ _ _ _ (R.wl ha hH (rr.append ⟨ru, True.intro⟩)) Ext.refl rfl⟩
  · cases e
end
end WM
set_option maxHeartbeats 1000000
namespace WM
open PySem PySem.Spec PyProof.Rows L2
section
variable {K : PySem.W.Frag} {F : Hp} {ρ : List Addr}
theorem anyK (κ : Key) : ∀ {ps : List (Key × V)} {kvs : List (D × D)}, RepK K F ρ ps kvs → (ps.any fun p => decide (p.1 = κ)) = kvs.any fun p => decide (p.1 = kOf κ)
  | [], [], _ => rfl
  | (k, v) :: ps, (a, x) :: kvs, ⟨h0, h1, h2⟩ => by
    rw [List.any_cons, List.any_cons, anyK κ h2]
    congr 1
    subst h0
    by_cases e : k = κ
    · simp [e]
    · have : ¬ kOf k = kOf κ := fun z => e (kOf_inj z)
      simp [e, this]
  | [], _ :: _, h => h.elim
  | _ :: _, [], h => h.elim
theorem mapK (κ : Key) {v : V} {d : D} (r : Rep K F ρ v d) : ∀ {ps : List (Key × V)} {kvs : List (D × D)}, RepK K F ρ ps kvs → RepK K F ρ (ps.map fun p => if p.1 = κ then (p.1, v) else p) (kvs.map fun p => if p.1 = kOf κ then (p.1, d) else p)
  | [], [], h => h
  | (k, u) :: ps, (a, x) :: kvs, ⟨h0, h1, h2⟩ => by
    subst h0
    rw [List.map_cons, List.map_cons]
    by_cases e : k = κ
    · subst e
      simp only [if_true]
      exact ⟨rfl, r, mapK k r h2⟩
    · have n : ¬ kOf k = kOf κ := fun z => e (kOf_inj z)
      simp only [e, n, if_false]
      exact ⟨rfl, h1, mapK κ r h2⟩
  | [], _ :: _, h => h.elim
  | _ :: _, [], h => h.elim
theorem appK {v : V} {d : D} (κ : Key) (r : Rep K F ρ v d) : ∀ {ps : List (Key × V)} {kvs : List (D × D)}, RepK K F ρ ps kvs → RepK K F ρ (ps ++ [(κ, v)]) (kvs ++ [(kOf κ, d)])
  | [], [], _ => ⟨rfl, r, True.intro⟩
  | (_, _) :: _, (_, _) :: _, ⟨h0, h1, h2⟩ => ⟨h0, h1, appK κ r h2⟩
  | [], _ :: _, h => h.elim
  | _ :: _, [], h => h.elim
theorem putK_rep {κ : Key} {v : V} {d : D} {ps : List (Key × V)} {kvs : List (D × D)} (h : RepK K F ρ ps kvs) (r : Rep K F ρ v d) : RepK K F ρ (putK ps κ v) (dput kvs (kOf κ) d) := by
  unfold putK dput
  rw [anyK κ h]
  split
  · exact mapK κ r h
  · exact appK κ r h
theorem anyT (κ : List Key) : ∀ {ps : List (List Key × V)} {kvs : List (D × D)}, RepT K F ρ ps kvs → (ps.any fun p => decide (p.1 = κ)) = kvs.any fun p => decide (p.1 = .tup (κ.map kOf))
  | [], [], _ => rfl
  | (k, v) :: ps, (a, x) :: kvs, ⟨h0, h1, h2⟩ => by
    rw [List.any_cons, List.any_cons, anyT κ h2]
    congr 1
    subst h0
    by_cases e : k = κ
    · simp [e]
    · have : ¬ D.tup (k.map kOf) = D.tup (κ.map kOf) := fun z => e (map_kOf_inj (by simpa using z))
      simp only [e, this]
  | [], _ :: _, h => h.elim
  | _ :: _, [], h => h.elim
theorem mapT (κ : List Key) {v : V} {d : D} (r : Rep K F ρ v d) : ∀ {ps : List (List Key × V)} {kvs : List (D × D)}, RepT K F ρ ps kvs → RepT K F ρ (ps.map fun p => if p.1 = κ then (p.1, v) else p) (kvs.map fun p => if p.1 = .tup (κ.map kOf) then (p.1, d) else p)
  | [], [], h => h
  | (k, u) :: ps, (a, x) :: kvs, ⟨h0, h1, h2⟩ => by
    subst h0
    rw [List.map_cons, List.map_cons]
    by_cases e : k = κ
    · subst e
      simp only [if_true]
      exact ⟨rfl, r, mapT k r h2⟩
    · have n : ¬ D.tup (k.map kOf) = D.tup (κ.map kOf) := fun z => e (map_kOf_inj (by simpa using z))
      simp only [e, n, if_false]
      exact ⟨rfl, h1, mapT κ r h2⟩
  | [], _ :: _, h => h.elim
  | _ :: _, [], h => h.elim
theorem appT {v : V} {d : D} (κ : List Key) (r : Rep K F ρ v d) : ∀ {ps : List (List Key × V)} {kvs : List (D × D)}, RepT K F ρ ps kvs → RepT K F ρ (ps ++ [(κ, v)]) (kvs ++ [(.tup (κ.map kOf), d)])
  | [], [], _ => ⟨rfl, r, True.intro⟩
  | (_, _) :: _, (_, _) :: _, ⟨h0, h1, h2⟩ => ⟨h0, h1, appT κ r h2⟩
  | [], _ :: _, h => h.elim
  | _ :: _, [], h => h.elim
theorem putT_rep {κ : List Key} {v : V} {d : D} {ps : List (List Key × V)} {kvs : List (D × D)} (h : RepT K F ρ ps kvs) (r : Rep K F ρ v d) : RepT K F ρ (putK ps κ v) (dput kvs (.tup (κ.map kOf)) d) := by
  unfold putK dput
  rw [anyT κ h]
  split
  · exact mapT κ r h
  · exact appT κ r h
end
/-- a dict's cell -/
def dctC (S : Store) (x : D) : Option (Nat × Bool × List (D × D)) := match x with
  | .cell k => match S[k]? with
    | some (.dct t kvs) => some (k, t, kvs)
    | _ => none
  | _ => none
section
variable {X : Cx} {xi : Xi} {B : Bs} {W : WX}
def wDnew (t : Bool) : WE := fun _ S Q _ => Q (.cell S.length) (S ++ [.dct t []])
theorem e_dnew {pos} : PE X (.Dict [] [] pos) (tE X.K xi B W (wDnew false)) :=
  pe_dnewK.weak fun σ H Q ⟨env, S, F, ρ, Qn, Qx, R, E, h2, P, PX⟩ => fun l hl => by
    have eC : Ext F ρ F (ρ ++ [l]) := ⟨fun _ _ z => .inl z, fun k a z => by rw [List.getElem?_append_left (List.getElem?_eq_some_iff.mp z).1]; exact z⟩
    obtain ⟨R2, e2⟩ := R.allocC (ho := .dK []) (o := .dct false []) hl ⟨[], upd_same, True.intro⟩
    exact P _ _ _ _ _ _ h2 R2 e2 ⟨l, by rw [← R.len]; simp, rfl⟩
theorem dput_ok {K : PySem.W.Frag} {S : Store} {F H : Hp} {ρ : List Addr} {v u y : V} {x k d : D} {n : Nat} {t : Bool} {kvs : List (D × D)} (R : Rel K B S F ρ H) (rx : Rep K F ρ v x) (hx : dctC S x = some (n, t, kvs)) (rk : Rep K F ρ u k) (hk : keyOk t k = true) (rd : Rep K F ρ y d) (hl : kvs.length < sizeLine) :
    ∃ a H4, v = .ref a ∧ DPut H a u y H4 ∧ Rel K B (S.set n (.dct t (dput kvs k d))) F ρ H4 := by
  unfold dctC at hx
  split at hx
  · split at hx
    · rename_i j _ t' es hS
      cases hx
      obtain ⟨a, ha, rfl⟩ := rx
      cases t with
      | false =>
        obtain ⟨ps, h1, h2⟩ := R.cell _ a _ ha hS
        obtain ⟨κ, rfl, rfl⟩ := key_flat hk rk
        exact ⟨a, _, rfl, .inl ⟨ps, κ, h1, rfl, by rw [repK_len h2]; exact hl, rfl⟩, R.write ha (fun _ _ z => by rw [hS] at z; cases z) ⟨_, upd_same, putK_rep h2 rd⟩⟩
      | true =>
        obtain ⟨ps, h1, h2⟩ := R.cell _ a _ ha hS
        obtain ⟨κ, b, rfl, rfl, hb⟩ := key_tup hk rk
        exact ⟨a, _, rfl, .inr ⟨ps, κ, b, h1, rfl, R.le _ _ hb, by rw [repT_len h2]; exact hl, rfl⟩, R.write ha (fun _ _ z => by rw [hS] at z; cases z) ⟨_, upd_same, putT_rep h2 rd⟩⟩
    · cases hx
  · cases hx
/-- d[k] = e -/
def wPut (o i e : WE) : WS := fun σ S k => e σ S (fun d S1 => o σ S1 (fun x S2 => i σ S2 (fun y S3 => ∃ n t kvs, dctC S3 x = some (n, t, kvs) ∧ keyOk t y = true ∧ kvs.length < sizeLine ∧ k.nx σ (S3.set n (.dct t (dput kvs y d)))) (fun c fs S => k.ex c fs σ S)) (fun c fs S => k.ex c fs σ S)) (fun c fs S => k.ex c fs σ S)
theorem s_put {o i e : Expr} {pos pos'} {wo wi we : WE} (hu : X.A.units + 1 < cLine) (ho : PE X o (tE X.K xi B W wo)) (hi : PE X i (tE X.K xi B W wi)) (he : PE X e (tE X.K xi B W we)) (hs : swapsWith e (some (.Subscript o i pos')) pos.line X.env = pure false := by rfl) :
    PS X (.Assign [.Subscript o i pos'] e pos) (tS X.K xi B W (wPut wo wi we)) :=
  (ps_dput hu ho hi he hs).weak fun D σ H ⟨env, S, F, ρ, k, R, E, h2, P⟩ => ⟨env, S, F, ρ, _, _, R, E, h2, fun d S1 v H1 F1 ρ1 q1 R1 e1 r1 => ⟨env, S1, F1, ρ1, _, _, R1, E.mono e1, q1, fun x S2 u H2 F2 ρ2 q2 R2 e2 r2 => ⟨env, S2, F2, ρ2, _, _, R2, E.mono (e1.trans e2), q2,
    fun y S3 z H3 F3 ρ3 ⟨n, t, kvs, h1, h2, h3, q3⟩ R3 e3 r3 => (by
      obtain ⟨a, H4, rfl, hp, R4⟩ := dput_ok R3 (r2.mono e3) h1 r3 h2 (r1.mono (e2.trans e3)) h3
      exact ⟨a, H4, rfl, hp, P.nx _ _ _ _ _ _ q3 R4 ((e1.trans e2).trans e3) (E.mono ((e1.trans e2).trans e3))⟩), ((P.px E).ext (e1.trans e2))⟩, (P.px E).ext e1⟩, P.px E⟩
/-- xs[i] = e, a list's cell -/
def wPutL (o i e : WE) : WS := fun σ S k => e σ S (fun d S1 => o σ S1 (fun x S2 => i σ S2 (fun y S3 => ∃ n ds j m, lstC S3 x = some (n, ds) ∧ y = .int j ∧ ixN ds.length j = some m ∧ k.nx σ (S3.set n (.lst (ds.set m d)))) (fun c fs S => k.ex c fs σ S)) (fun c fs S => k.ex c fs σ S)) (fun c fs S => k.ex c fs σ S)
end
end WM
set_option maxHeartbeats 1000000
namespace WM
open PySem PySem.Spec PyProof.Rows L2
def insOf (S : Store) : D → Option (String × List (String × D))
  | .ins c fs => some (c, fs)
  | .cell k => match S[k]? with
    | some (.ins c fs) => some (c, fs)
    | _ => none
  | _ => none
section
variable {X : Cx} {xi : Xi} {B : Bs} {W : WX}
/-- o.f, o of the class c -/
def wAttr (c f : String) (a : WE) : WE := fun σ S Q X => a σ S (fun x S1 => ∃ fs d, insOf S1 x = some (c, fs) ∧ fs.lookup f = some d ∧ Q d S1) X
/-- an object's cell -/
def insC (S : Store) (x : D) : Option (Nat × String × List (String × D)) := match x with
  | .cell k => match S[k]? with
    | some (.ins c fs) => some (k, c, fs)
    | _ => none
  | _ => none
/-- o.f = e -/
def wSetA (c f : String) (o e : WE) : WS := fun σ S k => e σ S (fun d S1 => o σ S1 (fun x S2 => ∃ n fs, insC S2 x = some (n, c, fs) ∧ fs.length < 1000 ∧ k.nx σ (S2.set n (.ins c (fput fs f d)))) (fun c fs S => k.ex c fs σ S)) (fun c fs S => k.ex c fs σ S)
def Pass (W : WX) (E : XK) : Prop := ∀ cls d σ H, E cls d H → W cls d σ H
def wMeth (c m : String) (sp : Spc) (dfl : List D) (a : WE) (w : WL) : WE := fun σ S Q X => a σ S (fun x S1 => ∃ fs, insOf S1 x = some (c, fs) ∧ fs.lookup m = none ∧ w σ S1 (fun ds S2 => sp (x :: (ds ++ dfl)) S2 Q X) X) X
end
end WM
set_option maxHeartbeats 1000000
namespace WM
open PySem PySem.Spec PyProof.Rows L2
end WM
set_option maxHeartbeats 1000000
namespace WM
open PySem PySem.Spec PyProof.Rows L2
def tyB (S : Store) (x : D) : Option String := match deref S x with
  | .non => some "NoneType"
  | .bl _ => some "bool"
  | .int _ => some "int"
  | .str _ => some "str"
  | .lst _ => some "list"
  | .tup _ => some "tuple"
  | .dct false _ => some "dict"
  | _ => none
def tyS : List String := ["NoneType", "bool", "int", "str", "list", "tuple", "dict"]
theorem tyB_mem {S : Store} {x : D} {n : String} (h : tyB S x = some n) : n ∈ tyS := by
  unfold tyB at h
  split at h <;> first | (cases h; decide) | cases h
theorem kit_tab : ∀ n ∈ tyS, ∀ T ∈ tyS, kitB n T = some (isOf n T) := by decide +kernel
theorem rep_ty {K : PySem.W.Frag} {B : Bs} {S : Store} {F H : Hp} {ρ : List Addr} {v : V} {x : D} {n : String} (R : Rel K B S F ρ H) (r : Rep K F ρ v x) (h : tyB S x = some n) : TyX K H v (.type n) := by
  unfold tyB at h
  split at h
  · rename_i h1; cases h; rw [rep_non r h1]; exact .base .non
  · rename_i b h1; cases h; rw [rep_bl r h1]; exact .base (.bl _)
  · rename_i i h1; cases h; rw [rep_int r h1]; exact .base (.int _)
  · rename_i s h1; cases h; rw [rep_str r h1]; exact .base (.str _)
  · rename_i ds h1
    cases h
    obtain ⟨a, vs, rfl, ha, _⟩ := rep_lst R r h1
    exact .base (.lst ha)
  · rename_i ds h1
    cases h
    obtain ⟨a, vs, rfl, ha, _⟩ := rep_tup R r h1
    exact .base (.tup ha)
  · rename_i kvs h1
    cases h
    obtain ⟨a, rfl, ps, ha | ⟨o, ha⟩, _⟩ := rep_dct R r h1
    · exact .base (.dK ha)
    · exact .fDict ha
  · cases h
def wIsi (Ts : List String) (a : WE) : WE := fun σ S Q X => a σ S (fun x S1 => ∃ n, tyB S1 x = some n ∧ Q (.bl (Ts.any (isOf n))) S1) X
section
variable {X : Cx} {xi : Xi} {B : Bs} {W : WX}
theorem e_isi (T : String) {e : Expr} {a : WE} (hT : T ∈ tyS) (h : PE X e (tCB (rIsi X.K) (tCons (tE X.K xi B W a) (tCons (tC (.ty T)) tNil)))) : PE X e (tE X.K xi B W (wIsi [T] a)) :=
  h.weak fun σ H Q ⟨env, S, F, ρ, Qn, Qx, R, E, h2, P, PX⟩ => ⟨env, S, F, ρ, _, Qx, R, E, h2, fun x S1 v H1 F1 ρ1 ⟨n, h3, q⟩ R1 e1 r1 =>
    ⟨v, .ty T, .type n, .type T, isOf n T, rfl, .ty T, rep_ty R1 r1 h3, kit_ty (kit_tab n (tyB_mem h3) T hT), P _ _ _ _ _ _ q R1 e1 (by simp [Rep])⟩, PX⟩
end
end WM
set_option maxHeartbeats 1000000
namespace WM
open PySem PySem.Spec PyProof.Rows L2
end WM
set_option maxHeartbeats 1000000
namespace WM
open PySem PySem.Spec PyProof.Rows L2
section
variable {X : Cx} {xi : Xi} {B : Bs} {W : WX}
/-- x += e, x -= e, whole numbers -/
def wAugI (i : Nat) (f : Int → Int → Int) (e : WE) : WS := fun σ S k => ∃ a, σ[i]? = some (some (.int a)) ∧ e σ S (fun d S1 => ∃ b, d = .int b ∧ k.nx (σ.set i (some (.int (f a b)))) S1) (fun c fs S => k.ex c fs σ S)
/-- del d[k], a dict's cell with whole numbers and texts as keys -/
def wDel (o i : WE) : WS := fun σ S k => o σ S (fun x S1 => i σ S1 (fun y S2 => ∃ n kvs, dctC S2 x = some (n, false, kvs) ∧ keyOk false y = true ∧ (kvs.lookup y).isSome = true ∧ k.nx σ (S2.set n (.dct false (ddrop kvs y)))) (fun c fs S => k.ex c fs σ S)) (fun c fs S => k.ex c fs σ S)
end
end WM
set_option maxHeartbeats 1000000
namespace WM
open PySem PySem.Spec PyProof.Rows L2
def wProp (c : String) (sp : Spc) (a : WE) : WE := fun σ S Q X => a σ S (fun x S1 => ∃ fs, insOf S1 x = some (c, fs) ∧ sp [x] S1 Q noX) X
end WM
set_option maxHeartbeats 1000000
namespace WM
open PySem PySem.Spec PyProof.Rows L2
/-- the texts that sorted() is given: of a list, of a dict's keys -/
def strItems (S : Store) (x : D) : Option (List Str) := match deref S x with
  | .lst ds => strsL ds
  | .dct false kvs => strsL (kvs.map (·.1))
  | _ => none
def wSortS (w : WL) : WL := fun σ S Q X => w σ S (fun ds S1 => ∃ x xs, ds = [x] ∧ strItems S1 x = some xs ∧ xs.length < 64 ∧ ∀ ys : List Str, ys.Perm xs → sortedS ys = true → Q (ys.map .str) S1) X
end WM
set_option maxHeartbeats 1000000
namespace WM
open PySem PySem.Spec PyProof.Rows L2
/-- what is known of the base class M of the own errors -/
structure MixC (K : PySem.W.Frag) (M : Addr) : Prop where
  ga : PySem.W.specialIn K (.ref M) "__getattribute__" = some (some (.builtin "type.__getattribute__"))
  rd : PySem.W.readsIn K M (.type "type") = true
  ini : PySem.W.findCls K (.ref M) (.type "type") "__init__" = some (.val (.builtin "ValueError.__init__"))
section
variable {X : Cx} {e : Expr} {es : List Expr} {ta : TA} {x : Str} {M : Addr} {p1 p2 pos : Pos}
/-- M.__init__(self, ..) -/
theorem pe_mixinit {pl : Sem Bool} (hm : X.mg x = some (.ref M)) (C : MixC X.K M) (ha : PA X (e :: es) ta) (hg : Gl X x := by rfl)
    (hc : eval (.Call (.Attribute (.Name x p1) "__init__" p2) (e :: es) [] pos) X.env = (do
      let ov ← eval (.Name x p1) X.env
      standAt p2.atName
      let (f, first) ← holding [ov] (getMethod ov "__init__" pl)
      callWith pos f first (backTo pos (starEach (e :: es) X.env)) (backToKw pos (keywordEach [] X.env))) := by rfl)
    (he : starEach (e :: es) X.env = (false, eval e X.env) :: starEach es X.env := by rfl) (hpl : (backTo pos (starEach es X.env)).any (·.1) = false := by rfl) (hdb : (x == ("__debug__" : Str)) = false := by decide) :
    PE X (.Call (.Attribute (.Name x p1) "__init__" p2) (e :: es) [] pos) (tVeI X.K ta) := by
  refine ⟨fun pins s σ H Q I h => ?_⟩
  refine PySem.W.methodCall_KW (ld_glob I hg hm ?_ hdb) hc
  refine PySem.W.method_cls I.kIn C.ga (PySem.W.cls_value I.kIn C.rd C.ini (by decide +kernel) ?_)
  show wpAny _ _ (callWith pos (Value.builtin "ValueError.__init__") [] (backTo pos (starEach (e :: es) X.env)) []) _ _ _
  refine PyProof.Rows.callWith_method1 (thn (ha.run pos pins _ σ H _ (I.tok _) h) fun us s1 ⟨vs, H1, I1, r1, a, C, ws, ev, hl, T, ea, q⟩ => ?_) he hpl
  subst ev
  cases r1 with
  | @cons _ u0 _ ur ra rw' =>
    obtain rfl : u0 = Value.ref a := ra
    have hlen : ur.length ≤ sizeLine := by
      rw [← Paired.length rw', sizeLine_eq]
      omega
    exact oinit_ok T I1 ea hlen fun s' J => ⟨.non, H1, J, rfl, q⟩
end
end WM
set_option maxHeartbeats 1000000
namespace WM
open PySem PySem.Spec PyProof.Rows L2
/-- the promise of __init__(self, y): MixError.__init__(self, ".."); self.f = y -/
def spXI (K : PySem.W.Frag) (C : Addr) (f : Str) : Sp := fun vs H Q _ => ∃ (a : Addr) (y : V), vs = [.ref a, y] ∧ H a = some (exo a C none) ∧ ∀ dx, H dx = none → dx ≠ a → Q .non (upd (upd H dx (exd dx [(f, y)])) a (exo a C (some dx)))
/-- raise C(e) -/
def wRaise (c f : String) (w : WL) : WS := fun σ S k => w σ S (fun ds S1 => ∃ d, ds = [d] ∧ k.ex c [(f, d)] σ S1) (fun c fs S => k.ex c fs σ S)
end WM
set_option maxHeartbeats 1000000
namespace WM
open PySem PySem.Spec PyProof.Rows L2
/-- a clause: its class, the slot of its name, its suite's reading -/
structure Cl where
  c : Value
  i : Option Nat
  ts : Addr → Value → Option Addr → TS
def outD (i : Nat) (D : Ends) : Ends := { nx := fun σ' H' => D.nx (σ'.set i none) H', rt := D.rt, bk := fun σ' H' => D.bk (σ'.set i none) H', ct := fun σ' H' => D.ct (σ'.set i none) H' }
def Cl.run (l : Cl) (a : Addr) (cls : Value) (d : Option Addr) (D : Ends) (σ : L2.St) (H : Hp) : Prop := match l.i with
  | none => l.ts a cls d D σ H
  | some i => l.ts a cls d (outD i D) (σ.set i (some (.ref a))) H
end WM
set_option maxHeartbeats 1000000
namespace WM
open PySem PySem.Spec PyProof.Rows L2
theorem hu9 {A : Around} {k : Nat} (hr : Room k A) : A.units + 9 < cLine := by have := hr.un; omega
structure Know (P : Program) (w : World) (K : PySem.W.Frag) (mg : Str → Option Value) (base : Heap) (k : Nat) (x : Str) (ps : List Str) (sp : Spc) : Prop where
  ex : ∃ f fd, FnW P w K mg base (L2N.CX P w) k f fd ps sp ∧ mg x = some (.ref f) ∧ PySem.W.keepIn K (.ref f) = true ∧ Binds K fd ps []
section
variable {X : Cx} {xi : Xi} {B : Bs} {W : WX}
theorem hx_of (tk : L2N.Takes X W) : ∀ σ, PassesAt (L2N.CX X.prog X.w) X σ (L2.WE W σ) := fun σ pins H s e s' I c => tk e s' (L2N.XE.of_call I (fun cls d H' h => h) c)
variable {k j : Nat} {ps : List Str} {sp : Spc} {x : Str} {c m : String} {p pos apos : Pos} {e o : Expr} {es : List Expr} {w : WL} {a : WE}
theorem e_kn (kn : Know X.prog X.w X.K X.mg X.base k x ps sp) (hr : Room j X.A) (hk : k ≤ j) (tk : L2N.Takes X W) (ha : PA X (e :: es) (tL X.K xi B W w)) (hg : Gl X x := by rfl) (hdb : (x == ("__debug__" : Str)) = false := by decide)
    (he : starEach (e :: es) X.env = (false, eval e X.env) :: starEach es X.env := by rfl) (hpl : (backTo pos (starEach es X.env)).any (·.1) = false := by rfl) : PE X (.Call (.Name x p) (e :: es) [] pos) (tE X.K xi B W (wCall sp [] w)) := by
  obtain ⟨f, fd, F, hm, kp, hb⟩ := kn.ex
  exact e_fn F (hr.mono hk) hm kp hb .nil (fun _ _ => True.intro) (hx_of tk) ha hg hdb he hpl
end
end WM
set_option maxHeartbeats 1000000
namespace WM
open PySem PySem.Spec PyProof.Rows L2
section
variable {α : Type} {enc : α → D} {b : D → Env → (Env → Prop) → Prop} {g : Option Nat} {S0 : Store} {σ : Env} {S : Store}
/-- a for over a list: J at the items that are behind -/
theorem for_inv {w : WS} {k : Kt} (xs : List α) (J : List α → Env → Store → Prop) (st : ∀ pre σ S, J pre σ S → still g S0 S)
    (turn : ∀ pre x post σ S, xs = pre ++ x :: post → J pre σ S → ∀ nx : Env → Store → Prop, (∀ σ' S', J (pre ++ [x]) σ' S' → nx σ' S') → b (enc x) σ fun σ1 => w σ1 S { k with nx := nx, ct := nx, bk := k.nx })
    (h0 : J [] σ S) (h1 : ∀ σ S, J xs σ S → k.nx σ S) : forL b w g S0 k (xs.map enc) σ S := by
  have key : ∀ (post pre : List α) (σ : Env) (S : Store), xs = pre ++ post → J pre σ S → forL b w g S0 k (post.map enc) σ S := by
    intro post
    induction post with
    | nil => intro pre σ S e j; rw [List.append_nil] at e; subst e; exact h1 _ _ j
    | cons x r ih =>
      intro pre σ S e j
      refine turn pre x r σ S e j _ fun σ' S' j' => ⟨st _ _ _ j', ih (pre ++ [x]) σ' S' (by rw [e]; simp) j'⟩
  exact key xs [] σ S rfl h0
/-- a comprehension: J at the items that are behind, what is made, the store -/
theorem comp_inv {t : WT} {e : WE} {Q : List D → Store → Prop} (xs : List α) (J : List α → List D → Store → Prop) (st : ∀ pre acc S, J pre acc S → still g S0 S)
    (turn : ∀ pre x post acc S, xs = pre ++ x :: post → J pre acc S → ∀ (Y : D → Store → Prop) (N : Store → Prop), (∀ y S', J (pre ++ [x]) (acc ++ [y]) S' → Y y S') → (∀ S', J (pre ++ [x]) acc S' → N S') →
      b (enc x) σ fun σ1 => t σ1 S (fun k S1 => if k = true then e σ1 S1 Y noX else N S1) noX)
    (h0 : J [] [] S) (h1 : ∀ acc S, J xs acc S → Q acc S) : compW b t e g S0 (xs.map enc) σ S Q := by
  have key : ∀ (post pre : List α) (acc : List D) (S : Store) (Q' : List D → Store → Prop), xs = pre ++ post → J pre acc S → (∀ r S, J xs (acc ++ r) S → Q' r S) → compW b t e g S0 (post.map enc) σ S Q' := by
    intro post
    induction post with
    | nil => intro pre acc S Q' e j h; rw [List.append_nil] at e; subst e; exact h [] _ (by simpa using j)
    | cons x r ih =>
      intro pre acc S Q' e j h
      refine turn pre x r acc S e j _ _ (fun y S' j' => ⟨st _ _ _ j', ih (pre ++ [x]) (acc ++ [y]) S' _ (by rw [e]; simp) j' fun q S2 j2 => h (y :: q) S2 (by simpa using j2)⟩)
        fun S' j' => ⟨st _ _ _ j', ih (pre ++ [x]) acc S' _ (by rw [e]; simp) j' h⟩
  exact key xs [] [] S Q rfl h0 fun r S j => h1 _ _ (by simpa using j)
/-- a comprehension whose parts change nothing -/
theorem comp_map {t : WT} {e : WE} {Q : List D → Store → Prop} (xs : List α) (p : α → Bool) (f : α → D)
    (turn : ∀ x ∈ xs, ∀ (Y : D → Store → Prop) (N : Store → Prop), (p x = true → Y (f x) S) → (p x = false → N S) → b (enc x) σ fun σ1 => t σ1 S (fun k S1 => if k = true then e σ1 S1 Y noX else N S1) noX)
    (h1 : Q ((xs.filter p).map f) S) : compW b t e g S (xs.map enc) σ S Q := by
  refine comp_inv xs (fun pre acc S' => S' = S ∧ acc = (pre.filter p).map f) (fun _ _ S' h => by rw [h.1]; cases g <;> simp [still]) ?_ ⟨rfl, rfl⟩ ?_
  · rintro pre x post acc S' ex ⟨rfl, rfl⟩ Y N hY hN
    refine turn x (by rw [ex]; simp) Y N (fun hp => hY _ _ ⟨rfl, ?_⟩) (fun hp => hN _ ⟨rfl, ?_⟩)
    · rw [List.filter_append, List.map_append]; simp [hp]
    · rw [List.filter_append, List.map_append]; simp [hp]
  · rintro acc S' ⟨rfl, rfl⟩; exact h1
/-- without a test -/
theorem comp_all {e : WE} {Q : List D → Store → Prop} (xs : List α) (f : α → D)
    (turn : ∀ x ∈ xs, ∀ (Y : D → Store → Prop), Y (f x) S → b (enc x) σ fun σ1 => e σ1 S Y noX)
    (h1 : Q (xs.map f) S) : compW b wYes e g S (xs.map enc) σ S Q := by
  refine comp_map xs (fun _ => true) f (fun x hx Y N hY _ => ?_) (by rw [List.filter_eq_self.mpr (by simp)]; exact h1)
  simp only [wYes, if_true]
  exact turn x hx Y (hY rfl)
end
end WM
set_option maxHeartbeats 1000000
namespace WM
open PySem PySem.Spec PyProof.Rows L2
section
variable {X : Cx} {xi : Xi} {B : Bs} {W : WX}
variable {k j : Nat} {ps : List Str} {sp : Spc} {x : Str} {c m : String} {p pos apos : Pos} {e o : Expr} {es : List Expr} {w : WL} {a : WE}
def wSwap (i j : Nat) (a b : WE) : WS := fun σ S k => a σ S (fun x S1 => b σ S1 (fun y S2 => k.nx ((σ.set i (some x)).set j (some y)) S2) (fun c fs S => k.ex c fs σ S)) (fun c fs S => k.ex c fs σ S)
def wUnp (b : D → Env → (Env → Prop) → Prop) (w : WE) : WS := fun σ S k => w σ S (fun d S1 => b d σ (fun σ1 => k.nx σ1 S1)) (fun c fs S => k.ex c fs σ S)
def bTupL (n : Nat) (r : List D → Env → (Env → Prop) → Prop) : D → Env → (Env → Prop) → Prop := fun d σ Q => ∃ ds, d = .lst ds ∧ ds.length = n ∧ r ds σ Q
end
end WM
set_option maxHeartbeats 1000000
namespace WM
open PySem PySem.Spec PyProof.Rows L2
def compW2 (vs1 : List Nat) (b : D → Env → (Env → Prop) → Prop) (t : WT) (b1 : D → Env → (Env → Prop) → Prop) (i1 : WI) (t1 : WT) (e : WE) (g : Option Nat) (S0 : Store) : List D → Env → Store → (List D → Store → Prop) → Prop
  | [], _, S, Q => Q [] S
  | d :: ds, σ, S, Q => b d σ fun σ1 => t σ1 S (fun k S1 => if k = true then i1 σ1 S1 (fun items1 g1 S2 => items1.length ≤ 1000 ∧ compW b1 t1 e g1 S2 items1 (wipeE σ1 vs1) S2 fun ys S3 => still g S0 S3 ∧ compW2 vs1 b t b1 i1 t1 e g S0 ds σ S3 fun zs S4 => Q (ys ++ zs) S4) noX
      else still g S0 S1 ∧ compW2 vs1 b t b1 i1 t1 e g S0 ds σ S1 Q) noX
def wComp2 (vs vs1 : List Nat) (b : D → Env → (Env → Prop) → Prop) (i : WI) (t : WT) (b1 : D → Env → (Env → Prop) → Prop) (i1 : WI) (t1 : WT) (e : WE) : WL := fun σ S Q X => i σ S (fun items g S1 => items.length ≤ 1000 ∧ compW2 vs1 b t b1 i1 t1 e g S1 items (wipeE σ vs) S1 Q) X
end WM
namespace WM
open PySem PySem.Spec PyProof.Rows L2
end WM
set_option maxHeartbeats 1000000
namespace WM
open PySem PySem.Spec PyProof.Rows L2
theorem noErr {P : Program} {w : World} {X : Cx} {H : Hp} {s : Shared} {er : Value} {s' : Shared} (post : L2N.CX P w X.stack H s (fun _ _ _ => False) er s') : False := by
  obtain ⟨_, _, _, _, _, _, _, _, _, _, _, _, z⟩ := post
  exact z
end WM
set_option maxHeartbeats 1000000
namespace WM
open PySem PySem.Spec PyProof.Rows L2
/-- an own error x with one field f -/
structure KnowE (P : Program) (w : World) (K : PySem.W.Frag) (mg : Str → Option Value) (base : Heap) (x f : String) : Prop where
  ex : ∃ fI fd ps, OexC K (He.ga K x) ∧ PySem.W.findIn K (.ref (He.ga K x)) "__init__" = some (some (.ref fI)) ∧ PySem.W.typeIn K (.ref fI) = some (.type "function") ∧ FnOk P w K mg base (L2N.CX P w) 1 fI fd ps (spXI K (He.ga K x) (Str.ofString f)) ∧ Binds K fd ps [] ∧ mg x = some (.ref (He.ga K x))
section
variable {P : Program} {w : World} {K : PySem.W.Frag} {mg : Str → Option Value} {base : Heap} {fn : Addr} {fd : FuncData} {nm qual fl : Str} {params : Arguments} {s1 s2 : Stmt} {scope : Scope} {C : Addr} {z : Str}
theorem xinit_ok (F : FunD K nm qual params [s1, s2] scope [] [] fn fd) (S : FnScope ["self", fl] ["self", fl] scope) (T : OexC K C) (nf : PySem.W.findIn K (.ref C) fl = some none)
    (h1 : ∀ (cdv : Value) (A : Around) (outer : List PySem.Env) (s : Shared) (H : Hp) (E : XK), PS (cxOf (L2N.CX P w) P w K mg base ["self", fl] qual scope fn cdv A outer s H E) s1 (fun D σ H => tVeI K (tCons (tVar 0) (tCons (tC (.str z)) tNil)) σ H fun _ H1 => D.nx σ H1))
    (h2 : ∀ (cdv : Value) (A : Around) (outer : List PySem.Env) (s : Shared) (H : Hp) (E : XK), PS (cxOf (L2N.CX P w) P w K mg base ["self", fl] qual scope fn cdv A outer s H E) s2 (tOst K fl (tVar 0) (tVar 1))) :
    FnOk P w K mg base (L2N.CX P w) 1 fn fd ["self", fl] (spXI K C fl) := by
  refine F.ok S (fun vs H Q E h => ?_) (fun cdv A outer s H vs Q E hr h => ⟨_, pss_cons (h1 cdv A outer s H E) (pss_one (h2 cdv A outer s H E)), ?_⟩)
  · obtain ⟨a, y, rfl, _⟩ := h; rfl
  obtain ⟨a, y, rfl, ha, q⟩ := h
  refine ⟨_, rfl, a, C, _, rfl, by show 1 ≤ 1000; decide, T, ha, ?_⟩
  exact ⟨_, rfl, _, rfl, a, C, rfl, T, nf, .inl ⟨ha, fun dx hd hn => q dx hd hn⟩⟩
end
end WM
set_option maxHeartbeats 1000000
namespace WM
open PySem PySem.Spec PyProof.Rows L2
/-- the own errors, all under MixError -/
def subE (errs : List String) (c x : String) : Option Bool := guard (c ∈ errs ∧ (x = "MixError" ∨ x ∈ errs)) (decide (x = "MixError") || decide (c = x))
/-- a clause: its class, the name's slot, its suite -/
structure Cla where
  x : String
  i : Option Nat
  w : WS
def Kt.noX (k : Kt) : Kt := { k with ex := fun _ _ _ _ => False }
def Kt.out (i : Nat) (k : Kt) : Kt := { nx := fun σ S => k.nx (σ.set i none) S, rt := k.rt, bk := fun σ S => k.bk (σ.set i none) S, ct := fun σ S => k.ct (σ.set i none) S, ex := fun _ _ _ _ => False }
def hnd (errs : List String) (k : Kt) : List Cla → String → List (String × D) → Env → Store → Prop
  | [], c, fs, σ, S => k.ex c fs σ S
  | l :: r, c, fs, σ, S => ∃ b, subE errs c l.x = some b ∧ if b = true then (match l.i with
      | none => l.w σ S k.noX
      | some i => l.w (σ.set i (some (.ins c fs))) S (k.out i)) else hnd errs k r c fs σ S
end WM
set_option maxHeartbeats 1000000
namespace WM
open PySem PySem.Spec PyProof.Rows L2
def wMakeF (c : String) (sp : Spc) (dfl : List D) (w : WL) : WE := fun σ S Q X => w σ S (fun ds S1 => sp (.cell S1.length :: (ds ++ dfl)) (S1 ++ [.ins c []])
  (fun d S2 => d = .non ∧ ∃ o t, S2 = S1 ++ [o] ∧ o.tree = some t ∧ S1.length ∉ o.refs ∧ Q t S1) (fun c' fs S2 => ∃ o, S2 = S1 ++ [o] ∧ S1.length ∉ refsF fs ∧ X c' fs S1)) X
end WM
set_option maxHeartbeats 1000000
namespace WM
open PySem PySem.Spec PyProof.Rows L2
/-- data as the library has them: numbers, texts, truth values, None; tuples and lists of these -/
def toPy : Nat → Store → D → Option PyData
  | _, _, .non => some .none
  | _, _, .bl b => some (.bool b)
  | _, _, .int i => some (.int i)
  | _, _, .str s => some (.str s)
  | n + 1, S, .tup ds => (ds.mapM (toPy n S)).map .tuple
  | n + 1, S, .lst ds => (ds.mapM (toPy n S)).map .list
  | n + 1, S, .cell k => match S[k]? with
    | some (.lst ds) => (ds.mapM (toPy n S)).map .list
    | _ => none
  | _, _, _ => none
section
variable {P : Program} {w : World} {K : PySem.W.Frag} {B : Bs} {S : Store} {F H : Hp} {ρ : List Addr} {s : Shared}
theorem readsAll_of {α : Type} {f : D → Option PyData} : ∀ {ds : List D} {vs : List V} {us : List Value} {ps : List PyData}, (∀ d ∈ ds, ∀ v u p, f d = some p → Rep K F ρ v d → RelV v u → ∃ as, Reads s.heap u p as) → ds.mapM f = some ps → RepL K F ρ vs ds → Vals vs us → ∃ as, ReadsAll s.heap us ps as
  | [], [], us, ps, _, h, _, r => by
    cases r
    simp at h; subst h
    exact ⟨[], .nil⟩
  | d :: ds, v :: vs, us, ps, hd, h, rr, r => by
    cases r with
    | @cons _ u _ us r1 r2 =>
      rw [List.mapM_cons] at h
      cases e1 : f d with
      | none => rw [e1] at h; cases h
      | some p =>
        cases e2 : ds.mapM f with
        | none => rw [e1, e2] at h; cases h
        | some qs =>
          rw [e1, e2] at h; cases h
          obtain ⟨a1, h1⟩ := hd d (by simp) v u p e1 rr.1 r1
          obtain ⟨a2, h2⟩ := readsAll_of (α := α) (fun d' hd' => hd d' (by simp [hd'])) e2 rr.2 r2
          exact ⟨_, .cons h1 h2⟩
  | [], _ :: _, _, _, _, _, h, _ => h.elim
  | _ :: _, [], _, _, _, _, h, _ => h.elim
theorem reads_py (hok : HOk P w H s.heap) (R : Rel K B S F ρ H) : ∀ (n : Nat) (d : D) (v : V) (u : Value) (p : PyData), toPy n S d = some p → Rep K F ρ v d → RelV v u → ∃ as, Reads s.heap u p as := by
  intro n
  induction n with
  | zero =>
    intro d v u p h r rv
    cases d <;> simp [toPy] at h
    · subst h; cases (show v = _ from r); cases (show u = _ from rv); exact ⟨_, .none⟩
    · subst h; cases (show v = _ from r); cases (show u = _ from rv); exact ⟨_, .bool _⟩
    · subst h; cases (show v = _ from r); obtain ⟨t, rfl⟩ := rv; exact ⟨_, .int _ _⟩
    · subst h; cases (show v = _ from r); obtain ⟨t, rfl⟩ := rv; exact ⟨_, .str _ _⟩
  | succ n ih =>
    intro d v u p h r rv
    have lst : ∀ (a : Addr) (vs : List V) (ds : List D), v = .ref a → H a = some (.lst vs) → RepL K F ρ vs ds → (ds.mapM (toPy n S)).map PyData.list = some p → ∃ as, Reads s.heap u p as := by
      intro a vs ds e1 ha rr hm
      subst e1
      obtain rfl : u = Value.ref a := rv
      rw [Option.map_eq_some_iff] at hm
      obtain ⟨ps, hm, rfl⟩ := hm
      obtain ⟨hz, its, k, rvs, hob⟩ := hok a _ ha
      obtain ⟨as, hr⟩ := readsAll_of (α := Unit) (fun d _ v u p => ih d v u p) hm rr rvs
      exact ⟨_, .list hob rfl rfl (by simpa using hr)⟩
    cases d with
    | non => simp [toPy] at h; subst h; cases (show v = _ from r); cases (show u = _ from rv); exact ⟨_, .none⟩
    | bl b => simp [toPy] at h; subst h; cases (show v = _ from r); cases (show u = _ from rv); exact ⟨_, .bool _⟩
    | int i => simp [toPy] at h; subst h; cases (show v = _ from r); obtain ⟨t, rfl⟩ := rv; exact ⟨_, .int _ _⟩
    | str z => simp [toPy] at h; subst h; cases (show v = _ from r); obtain ⟨t, rfl⟩ := rv; exact ⟨_, .str _ _⟩
    | tup ds =>
      obtain ⟨a, vs, rfl, ha, rr⟩ := r
      obtain rfl : u = Value.ref a := rv
      simp only [toPy, Option.map_eq_some_iff] at h
      obtain ⟨ps, hm, rfl⟩ := h
      obtain ⟨hz, its, rvs, ob, hob, hc, k, hd⟩ := hok a _ (R.le _ _ ha)
      obtain ⟨as, hr⟩ := readsAll_of (α := Unit) (fun d _ v u p => ih d v u p) hm rr rvs
      exact ⟨_, .tuple hob hc hd (by simpa using hr)⟩
    | lst ds =>
      obtain ⟨a, vs, rfl, ha, rr⟩ := r
      exact lst a vs ds rfl (R.le _ _ ha) rr (by simpa [toPy] using h)
    | cell k =>
      obtain ⟨a, ha, rfl⟩ := r
      obtain ⟨o, h3, h4⟩ := R.at_cell ha
      simp only [toPy, h3] at h
      cases o with
      | lst ds =>
        obtain ⟨vs, h5, h6⟩ := h4
        exact lst a vs ds rfl h5 h6 h
      | _ => cases h
    | dct t kvs => simp [toPy] at h
    | ins c fs => simp [toPy] at h
    | scr ns => simp [toPy] at h
    | fn x => simp [toPy] at h
    | er c x => simp [toPy] at h
end
/-- what sorted() takes: items that are alike -/
def srtOk (ps : List PyData) : Prop := PySem.W.AllAlike ps ∧ PySem.W.Sortable ps ∧ ∀ p ∈ ps, p.depth ≤ 40
end WM
namespace PySem
open Sem (wp)
open AutoSeq1 (wpAny_loadPart')
end PySem
namespace WM
open PySem PySem.Spec PyProof.Rows L2
set_option maxHeartbeats 1000000
def wEnumT (w : WL) : WI := fun σ S Q X => w σ S (fun ds S1 => ∃ l, ds = [.tup l] ∧ Q (enumL l) none S1) X
end WM
namespace WM
theorem hu60 {A : PySem.Around} {k : Nat} (hr : L2.Room k A) : A.units + 60 < PySem.cLine := by have := hr.un; omega
end WM
set_option maxHeartbeats 1000000
namespace WM
open PySem PySem.Spec PyProof.Rows L2
theorem _root_.L2.PG.or {X : Cx} {e : Expr} {g g' : TG} (h : PG X e g) (h' : PG X e g') : PG X e (fun v σ H Q => g v σ H Q ∨ g' v σ H Q) := ⟨fun pins s σ H v u Q I r q => q.elim (h.run pins s σ H v u Q I r) (h'.run pins s σ H v u Q I r)⟩
def wUnpA (n : Nat) (r : List D → Env → (Env → Prop) → Prop) (w : WE) : WS := fun σ S k => w σ S (fun d S1 => ∃ ds, getSq S1 d = some ds ∧ ds.length = n ∧ r ds σ (fun σ1 => k.nx σ1 S1)) (fun c fs S => k.ex c fs σ S)
end WM
set_option maxHeartbeats 1000000
namespace WM
open PySem PySem.Spec PyProof.Rows L2
/-- acc: the entries so far -/
def dcompW (b : D → Env → (Env → Prop) → Prop) (t : WT) (ek ev : WE) (g : Option Nat) (S0 : Store) : List D → Env → Store → List (D × D) → (List (D × D) → Store → Prop) → Prop
  | [], _, S, acc, Q => Q acc S
  | d :: ds, σ, S, acc, Q => b d σ fun σ1 => t σ1 S (fun k S1 => if k = true then ek σ1 S1 (fun y S2 => ev σ1 S2 (fun z S3 => keyOk false y = true ∧ acc.length < sizeLine ∧ still g S0 S3 ∧ dcompW b t ek ev g S0 ds σ S3 (dput acc y z) Q) noX) noX else still g S0 S1 ∧ dcompW b t ek ev g S0 ds σ S1 acc Q) noX
/-- {k: v for ..}: a new cell -/
def wDcomp (vs : List Nat) (b : D → Env → (Env → Prop) → Prop) (i : WI) (t : WT) (ek ev : WE) : WE := fun σ S Q X => i σ S (fun items g S1 => items.length ≤ sizeLine ∧ dcompW b t ek ev g S1 items (wipeE σ vs) S1 [] fun kvs S2 => Q (.cell S2.length) (S2 ++ [.dct false kvs])) X
section
variable {X : Cx} {xi : Xi} {B : Bs} {W : WX}
theorem Unt.stays {K : PySem.W.Frag} {S S' : Store} {F H F' H' : Hp} {ρ ρ' : List Addr} (R : Rel K B S F ρ H) (R' : Rel K (sub S F ρ H) S' F' ρ' H') {a : Addr} {ps : List (Key × V)} (u : Unt S F ρ H a) (h : H a = some (.dK ps)) : H' a = some (.dK ps) ∧ Unt S' F' ρ' H' a := by
  have ni : ¬ (sub S F ρ H).im a := fun z => z.elim u.r u.h
  have h1 : H' a = some (.dK ps) := (R'.fr a _ h ni).elim id fun z => absurd u.f z.1
  have nn : (sub S F ρ H).H0 a ≠ none := fun z => by rw [show (sub S F ρ H).H0 a = H a from rfl, h] at z; cases z
  have hF : F' a = none := by
    cases q : F' a with
    | none => rfl
    | some o =>
      rcases R'.new a o q with y | y | ⟨ys, rfl⟩ | y
      · exact absurd u.f y
      · exact absurd y nn
      · have := R'.le _ _ q
        rw [h1] at this; cases this
      · exact absurd y ni
  exact ⟨h1, hF, fun z => (R'.cnew a z).elim ni nn, fun z => (hid_im R' z).elim ni nn⟩
variable {kx vx tg iter : Expr} {ifs : List Expr} {scope : Scope} {own : List (Str × Nat)} {pos : Pos} {i : WI} {g : TG} {b : D → Env → (Env → Prop) → Prop} {t : WT} {ek ev : WE}
/-- dict(d): a new cell -/
def wDcopy (w : WL) : WE := fun σ S Q X => w σ S (fun ds S1 => ∃ x kvs, ds = [x] ∧ deref S1 x = .dct false kvs ∧ Q (.cell S1.length) (S1 ++ [.dct false kvs])) X
/-- d.pop(k): there -/
def wDpop (a e : WE) : WE := fun σ S Q X => a σ S (fun x S1 => (∃ n kvs, dctC S1 x = some (n, false, kvs)) ∧ e σ S1 (fun y S2 => ∃ n kvs d, dctC S2 x = some (n, false, kvs) ∧ keyOk false y = true ∧ kvs.lookup y = some d ∧ Q d (S2.set n (.dct false (ddrop kvs y)))) X) X
end
end WM
set_option maxHeartbeats 1000000
namespace WM
open PySem PySem.Spec PyProof.Rows L2
end WM
set_option maxHeartbeats 1000000
namespace WM
open PySem PySem.Spec PyProof.Rows L2
def wStar (a : WE) (w : WL) : WL := fun σ S Q X => a σ S (fun x S1 => ∃ xs, getSq S1 x = some xs ∧ w σ S1 (fun ds S2 => Q (xs ++ ds) S2) X) X
end WM
set_option maxHeartbeats 1000000
namespace WM
open PySem PySem.Spec PyProof.Rows L2
def fRepr (S : Store) : List D → Option D
  | [x] => (toPy 9 S x).bind fun p => guard (p.showable = true ∧ p.hasDict = false ∧ p.depth ≤ 40 ∧ p.shown.length ≤ 1000000) (.str p.shown)
  | _ => none
section
variable {X : Cx} {B : Bs}
theorem b_repr (hg : X.A.guards = some []) (hu : X.A.units + 60 < cLine) : CallR X (.builtin "repr") (rB X.K B fRepr) := by
  intro pins s σ H vs us Q I rv h
  obtain ⟨S, F, ρ, ds, d, R, r, e, q⟩ := h
  unfold fRepr at e
  split at e
  · rename_i x
    rw [Option.bind_eq_some_iff] at e
    obtain ⟨p, h1, h2⟩ := e
    obtain ⟨⟨hs, hd, hdp, hl⟩, rfl⟩ := guard_some.mp h2
    have hl2 : p.shown.length ≤ sizeLine := Nat.le_trans hl (by decide)
    obtain ⟨v, rfl, rx⟩ := repL1 r
    obtain ⟨u, rfl, ru⟩ := vals1 rv
    have hq : Q (.str p.shown) H := q _ _ _ _ R Ext.refl rfl
    obtain ⟨as, rd⟩ := reads_py I.hok R 9 x v u p h1 rx ru
    have fin : ∀ h' t tk, (∀ b o, s.heap.get? b = some o → h'.get? b = some o) → EP X pins σ Q (.str p.shown t) { s with heap := h', toks := tk } := fun h' t tk k => ⟨.str p.shown, H, I.kept k, ⟨t, rfl⟩, hq⟩
    cases u with
    | ref a => exact repr_of_reads' rd hs (fun z => by rw [hd] at z; cases z) hg (by omega) (fun _ _ z => z) (fun h' t tk k => fin h' t tk k) hl2
    | none => cases rd; exact PySem.P.repr_of_none (fin _ _ _ fun _ _ z => z)
    | bool b => cases rd; exact PySem.P.repr_of_bool (fin _ _ _ fun _ _ z => z)
    | int i t => cases rd; exact PySem.P.repr_of_int (by simpa [PyData.showable] using hs) (fin _ _ _ fun _ _ z => z)
    | str z t => cases rd; exact PySem.P.repr_of_str (fin _ _ _ fun _ _ z => z) hl2
    | _ => cases rd
  · cases e
end
end WM
set_option maxHeartbeats 1000000
namespace WM
open PySem PySem.Spec PyProof.Rows L2
end WM
namespace WM
open PySem PySem.Spec PyProof.Rows L2
end WM
set_option maxHeartbeats 1000000
namespace WM
open PySem PySem.Spec PyProof.Rows L2
def wDisp1 (a b : WE) : WE := fun σ S Q _ => a σ S (fun y S1 => b σ S1 (fun z S2 => keyOk false y = true ∧ Q (.dct false [(y, z)]) S2) noX) noX
end WM
set_option maxHeartbeats 1000000
namespace WM
open PySem PySem.Spec PyProof.Rows L2 He
def oexB (K : PySem.W.Frag) (C : Addr) : Bool := (match K.lookup C with
  | some ⟨.type "type", _, .cls cd, sl⟩ => (match cd.mro, sl.toList with
    | .ref C' :: bm, [_, _, _, _, some (.builtin n), _] => C' == C && (n == "ValueError.__new__" && (!cd.hasDel && (cd.hasDict && PySem.HandSPX.refsVE bm)))
    | _, _ => false)
  | _ => false) && (eqO (PySem.W.findIn K (.ref C) "__setattr__") (some (some (.builtin "object.__setattr__"))) && (decide (PySem.W.subIn K (.ref C) (.type "BaseException") = some true) && (decide (PySem.W.typeIn K (.ref C) = some (.type "type")) && PySem.W.keepIn K (.ref C))))
theorem oexB_ok {K : PySem.W.Frag} {C : Addr} (h : oexB K C = true) : OexC K C := by
  unfold oexB at h
  obtain ⟨q, h⟩ := ba h
  obtain ⟨h1, h⟩ := ba h
  obtain ⟨h2, h⟩ := ba h
  obtain ⟨h3, h4⟩ := ba h
  refine ⟨?_, eqO_ok h1, of_decide_eq_true h2, of_decide_eq_true h3, h4⟩
  split at q
  · rename_i dd cd sl ho
    split at q
    · rename_i C' bm k0 k1 k2 k3 n k5 hm hs
      simp only [Bool.and_eq_true, beq_iff_eq, Bool.not_eq_true'] at q
      obtain ⟨rfl, rfl, hdel, hdi, hv⟩ := q
      obtain ⟨nm, bs, mro, ns, qn, hd, sn, sub, ab, col, del⟩ := cd
      dsimp only at hm hdel hdi
      subst hm hdel hdi
      have hsl : sl = #[k0, k1, k2, k3, some (.builtin "ValueError.__new__"), k5] := by
        obtain ⟨l⟩ := sl
        simp only at hs
        rw [hs]
      subst hsl
      exact ⟨nm, qn, ns, bs, bm, sn, sub, ab, col, dd, k0, k1, k2, k3, k5, ho, hv⟩
    · cases q
  · cases q
def mixB (K : PySem.W.Frag) (M : Addr) : Bool := eqO (PySem.W.specialIn K (.ref M) "__getattribute__") (some (some (.builtin "type.__getattribute__"))) && (PySem.W.readsIn K M (.type "type") && (match PySem.W.findCls K (.ref M) (.type "type") "__init__" with
  | some (.val (.builtin n)) => decide (n = "ValueError.__init__")
  | _ => false))
theorem mixB_ok {K : PySem.W.Frag} {M : Addr} (h : mixB K M = true) : MixC K M := by
  unfold mixB at h
  obtain ⟨h1, h⟩ := ba h
  obtain ⟨h2, h3⟩ := ba h
  refine ⟨eqO_ok h1, h2, ?_⟩
  split at h3
  · rename_i n e
    rw [e, of_decide_eq_true h3]
  · cases h3
/-- an error's own things -/
def oneB (K : PySem.W.Frag) (x f : String) : Bool := oexB K (ga K x) && (eqO (PySem.W.findIn K (.ref (ga K x)) "__init__") (some (some (.ref (ma K (ga K x) "__init__")))) && (decide (PySem.W.typeIn K (.ref (ma K (ga K x) "__init__")) = some (.type "function")) && eqO (PySem.W.findIn K (.ref (ga K x)) (Str.ofString f)) (some none)))
inductive Wh where
  | fn (x : Str)
  | meth (c m : Str)
  | prop (c m : Str)
  | stat (c m : Str)
def Wh.ad (K : PySem.W.Frag) : Wh → Addr
  | .fn x => ga K x
  | .meth c m => ma K (ga K c) m
  | .prop c m => match PySem.W.recIn K (ma K (ga K c) m) "property" with
    | some (.ref g :: _) => g
    | _ => 0
  | .stat c m => match PySem.W.recIn K (ma K (ga K c) m) "staticmethod" with
    | some (.ref g :: _) => g
    | _ => 0
structure DefM where
  at_ : Wh
  name : Str
  qual : Str
  st : Stmt
  dfl : List Dv := []
def fnM (K : PySem.W.Frag) (a : Addr) : He.FnW := match K.lookup a with
  | some ⟨_, _, .func fd, _⟩ => some (fd.name, fd.qualname, fd.params, fd.body, fd.scope, fd.globals, fd.closure, fd.builtins)
  | _ => none
def DefM.val (d : DefM) : He.FnW := some (d.name, d.qual, defArgs d.st, .stmts (defBody d.st), defScope d.st, mainGlobals, [], builtinsNs)
def DefM.dvs (K : PySem.W.Frag) (d : DefM) : List V := d.dfl.map (Dv.v K)
def DefM.ok (K : PySem.W.Frag) (d : DefM) : Bool := PySem.W.keepIn K (.ref (d.at_.ad K)) && (match K.lookup (d.at_.ad K) with
  | some ⟨_, _, .func fd, _⟩ => PySem.W.codeIn K fd.code d.qual && dflB K fd.defaults (d.dvs K)
  | _ => false)
theorem DefM.funD {K : PySem.W.Frag} {d : DefM} (e : fnM K (d.at_.ad K) = d.val) (c : d.ok K = true) : ∃ fd, FunD K d.name d.qual (defArgs d.st) (defBody d.st) (defScope d.st) (d.dvs K) [] (d.at_.ad K) fd := by
  obtain ⟨kp, c2⟩ := ba c
  unfold fnM at e
  cases q : K.lookup (d.at_.ad K) with
  | none => rw [q] at c2; cases c2
  | some o =>
    obtain ⟨oc, od, dt, osl⟩ := o
    rw [q] at c2 e
    cases dt with
    | func fd =>
      obtain ⟨n1, n2, n3, n4, n5, n6, n7, n8, n9, n10, n11, n12, n13, n14, n15⟩ := fd
      have e2 : (some (n1, n2, n3, n4, n5, n6, n7, n15) : He.FnW) = some (d.name, d.qual, defArgs d.st, .stmts (defBody d.st), defScope d.st, mainGlobals, [], builtinsNs) := e
      simp only [Option.some.injEq, Prod.mk.injEq] at e2
      obtain ⟨h1, h2, h3, h4, h5, h6, h7, h8⟩ := e2
      subst h1 h2 h3 h4 h5 h6 h7 h8
      have c3 : (PySem.W.codeIn K n13 d.qual && dflB K n8 (d.dvs K)) = true := c2
      obtain ⟨k1, k2⟩ := ba c3
      exact ⟨_, ⟨oc, od, n8, n9, n10, n11, n12, n13, n14, osl, rfl, q, k1, dflB_ok k2, kwdB_ok (kws := []) rfl⟩, kp⟩
    | _ => cases c2
abbrev AlM : Type := Bool × List He.FnW
def obsM (fa : List Fa) (fn : List DefM) (ex : PySem.W.Frag → Bool) (K : PySem.W.Frag) : AlM := ((fa.all fun f => f.ok K) && ((fn.all fun d => d.ok K) && ex K), fn.map fun d => fnM K (d.at_.ad K))
def valM (fn : List DefM) : AlM := (true, fn.map DefM.val)
def SaysM (fa : List Fa) (fn : List DefM) (ex : PySem.W.Frag → Bool) (K : PySem.W.Frag) : Prop := obsM fa fn ex K = valM fn
section
variable {fa : List Fa} {fn : List DefM} {ex : PySem.W.Frag → Bool} {K : PySem.W.Frag}
theorem SaysM.fact (c : SaysM fa fn ex K) (i : Nat) {f : Fa} (h : fa[i]? = some f := by rfl) : f.ok K = true := by
  have c1 := (ba (show ((fa.all fun f => f.ok K) && ((fn.all fun d => d.ok K) && ex K)) = true from congrArg (fun z : AlM => z.1) c)).1
  exact List.all_eq_true.mp c1 f (List.mem_of_getElem? h)
theorem SaysM.extra (c : SaysM fa fn ex K) : ex K = true :=
  (ba (ba (show ((fa.all fun f => f.ok K) && ((fn.all fun d => d.ok K) && ex K)) = true from congrArg (fun z : AlM => z.1) c)).2).2
theorem SaysM.def_ (c : SaysM fa fn ex K) (i : Nat) {d : DefM} (h : fn[i]? = some d := by rfl) : ∃ fd, FunD K d.name d.qual (defArgs d.st) (defBody d.st) (defScope d.st) (d.dvs K) [] (d.at_.ad K) fd := by
  have c2 := (ba (ba (show ((fa.all fun f => f.ok K) && ((fn.all fun d => d.ok K) && ex K)) = true from congrArg (fun z : AlM => z.1) c)).2).1
  have e : fn.map (fun d => fnM K (d.at_.ad K)) = fn.map DefM.val := congrArg (fun z : AlM => z.2) c
  have e2 : (fn.map fun d => fnM K (d.at_.ad K))[i]? = (fn.map DefM.val)[i]? := by rw [e]
  rw [List.getElem?_map, List.getElem?_map, h] at e2
  exact DefM.funD (Option.some.inj e2) (List.all_eq_true.mp c2 d (List.mem_of_getElem? h))
end
section
variable {P : Program} {w : World} {K : PySem.W.Frag} {mg : Str → Option Value} {base : Heap}
theorem know_of {k : Nat} {x : Str} {ps : List Str} {sp : Spc} {fd : FuncData} {f : Addr} (F : FnW P w K mg base (L2N.CX P w) k f fd ps sp) (hm : mg x = some (.ref f)) (kp : PySem.W.keepIn K (.ref f) = true) (hb : Binds K fd ps []) : Know P w K mg base k x ps sp := ⟨⟨_, _, F, hm, kp, hb⟩⟩
/-- the raising class x with the field f: its __init__ calls MixError.__init__ and keeps the field -/
theorem knowE_of {x f : String} {ps : List Str} {fd : FuncData} (h : oneB K x f = true) (F : OexC K (ga K x) → PySem.W.findIn K (.ref (ga K x)) (Str.ofString f) = some none → FnOk P w K mg base (L2N.CX P w) 1 (ma K (ga K x) "__init__") fd ps (spXI K (ga K x) (Str.ofString f))) (hb : Binds K fd ps []) (hm : mg x = some (.ref (ga K x))) : KnowE P w K mg base x f := by
  unfold oneB at h
  obtain ⟨h1, h⟩ := ba h
  obtain ⟨h2, h⟩ := ba h
  obtain ⟨h3, h4⟩ := ba h
  have T := oexB_ok h1
  exact ⟨⟨_, fd, ps, T, eqO_ok h2, of_decide_eq_true h3, F T (eqO_ok h4), hb, hm⟩⟩
end
theorem cx_no (P : Program) (w : World) (H : Hp) (s : Shared) (e : Value) (s' : Shared) (h : L2N.CX P w [] H s (fun _ _ _ => False) e s') : False := by
  obtain ⟨_, _, _, _, _, _, _, _, _, _, _, _, z⟩ := h
  exact z.elim
end WM
set_option maxHeartbeats 1000000
namespace WM
open PySem PySem.Spec PyProof.Rows L2 He
def hookL (as : List Addr) (fa : List Fa) (fn : List DefM) (ex : PySem.W.Frag → Bool) : PySem.W.Hook where
  α := AlM
  obs := fun s => obsM fa fn ex (frG s.heap.get? as)
  val := fun _ => valM fn
  says := fun _ h => ∃ K : PySem.W.Frag, K.In h ∧ SaysM fa fn ex K
  of := fun _ _ e => ⟨_, frG_in, e⟩
  keeps := fun _ _ _ ⟨K, hK, c⟩ k => ⟨K, PySem.W.Frag.In.keeps hK k, c⟩
def obsL (as : List Addr) (fa : List Fa) (fn : List DefM) (ex : PySem.W.Frag → Bool) (g : Addr → Option Obj) : AlM := obsM fa fn ex (frG g as)
theorem obsL_eq {as : List Addr} {fa : List Fa} {fn : List DefM} {ex : PySem.W.Frag → Bool} {g : Addr → Option Obj} {s : Shared} (h : ∀ a, g a = s.heap.get? a) : obsL as fa fn ex g = (hookL as fa fn ex).obs s := by
  have e : g = s.heap.get? := funext h
  rw [e] <;> rfl
end WM
set_option maxHeartbeats 1000000
namespace WM
open PySem PySem.Spec PyProof.Rows L2
/-- a def's promise where no guard stands -/
structure FnG (P : Program) (w : World) (K : PySem.W.Frag) (mg : Str → Option Value) (base : Heap) (CX : CXT) (k : Nat) (f : Addr) (fd : FuncData) (ps : List Str) (sp : Sp) : Prop where
  ln : ∀ vs H Q E, sp vs H Q E → vs.length = ps.length
  go : ∀ (A : Around) (outer : List PySem.Env) (s : Shared) (H : Hp) (args : Args) (us : List Value) (vs : List V) (Q : VK) (E : XK), A.guards = some [] → Room k A → Env0 P w K mg base A outer s H → BindsTo s fd args (ps.zip us) → Vals vs us → sp vs H Q E → codeAny (model P w) A (.call (.ref f) args) (CR CX outer P w H s Q E) s
section
variable {P : Program} {w : World} {K : PySem.W.Frag} {mg : Str → Option Value} {base : Heap} {CX : CXT} {k : Nat} {f : Addr} {fd : FuncData} {ps : List Str} {sp : Sp}
theorem FnG.of (F : FnOk P w K mg base CX k f fd ps sp) : FnG P w K mg base CX k f fd ps sp := ⟨F.len, fun A o s H a us vs Q E _ => F.run A o s H a us vs Q E⟩
variable {nm qual : Str} {params : Arguments} {body : List Stmt} {scope : Scope} {dvs : List V} {kws : List (Str × V)} {N : List Str}
theorem fnG_ok (F : FunD K nm qual params body scope dvs kws f fd) (S : FnScope N ps scope) (ln : ∀ vs H Q E, sp vs H Q E → vs.length = ps.length)
    (hb : ∀ (cdv : Value) (A : Around) (outer : List PySem.Env) (s : Shared) (H : Hp) (vs : List V) (Q : VK) (E : XK), A.guards = some [] → Room k (A.deeper (envOfC qual scope s.heap.objs.size f cdv)) → sp vs H Q E →
      ∃ t, PSs (cxOf CX P w K mg base N qual scope f cdv A outer s H E) body t ∧ t { nx := fun _ H1 => Q .non H1, rt := Q } (start N vs) H) : FnG P w K mg base CX (k + 1) f fd ps sp := by
  obtain ⟨oc, od, dV, kV, doc, pm, an, cdv, ct, osl, efd, lk, hcd, _, _⟩ := F.ex
  subst efd
  constructor
  · exact ln
  intro A outer s H args us vs Q E hg hr e0 bd r hsp
  have lvs := ln _ _ _ _ hsp
  have stays : ∀ b o, base.get? b = some o → s.heap.get? b = some o := fun b o e => (e0.bs b o e).1
  have KX := e0.mod.kin.keeps stays
  have lim := e0.mod.nolimit.keeps stays
  refine codeAny_call_function hr.depth (KX _ _ lk) rfl S.co S.gen rfl (PySem.W.codeRec_of KX hcd) (bd _ _ _ _ ?_)
  refine wpAny_newFunctionEnv_cells S.kind (fun y hy => ?_) fun env he s1 x => ?_
  · rcases S.par y.1 (List.of_mem_zip (a := y.1) (b := y.2) hy).1 with q | q
    · exact .inl q
    · exact .inr ⟨q, PySem.W.cellsFrom_some _ _ _ (.inl q)⟩
  subst he
  refine ⟨lim.keeps x.toInCall.keep, codeAny_func ?_⟩
  obtain ⟨t, walk, start_ok⟩ := hb cdv A outer s H vs Q E hg (hr.deeper _) hsp
  have I := inv_start (CX := CX) (E := E) S hr.hd e0 lvs r x
  refine wpAny_mono (walk.run [] s1 (start N vs) H _ I start_ok) ?_ fun _ _ z => z
  rintro (_ | _ | _ | u) s2 z
  · obtain ⟨σ2, H2, J, q⟩ := z
    exact ⟨.non, H2, J.os, J.bare, J.base, J.hok, rfl, q⟩
  · obtain ⟨_, _, _, q⟩ := z; exact q.elim
  · obtain ⟨_, _, _, q⟩ := z; exact q.elim
  · obtain ⟨v, σ2, H2, J, rv, q⟩ := z
    exact ⟨v, H2, J.os, J.bare, J.base, J.hok, rv, q⟩
end
section
variable {P : Program} {w : World} {K : PySem.W.Frag} {s : Shared} {a : Addr} {vs : List Value} {ns : List Int}
/-- the heap a law begins with: the script alone is told, unless it is the module's own -/
theorem first_hp (KX : K.In s.heap) (ha : s.heap.get? a = some { cls := .type "list", data := .seq vs.toArray }) (hi : IntsAre vs ns) (hl : ns.length ≤ sizeLine) :
    ∃ H : Hp, Only H ∧ SqL K H a (ns.map V.int) ∧ HOk P w H s.heap ∧ ∀ b u, H b = some u → b = a ∧ K.lookup a = none := by
  have rv := vals_ints hi
  have ev : vs.toArray.size ≤ sizeLine := by rw [List.size_toArray, hi.length]; exact hl
  by_cases own : ∃ o, K.lookup a = some o
  · obtain ⟨o, ho⟩ := own
    have eo := (KX a o ho).symm.trans ha
    cases eo
    exact ⟨fun _ => none, fun _ => .inl rfl, .inr ⟨_, vs.toArray, _, ho, rfl, rfl, rfl, ev, by simpa using rv⟩, fun _ _ z => (nomatch z), fun _ _ z => (nomatch z)⟩
  · have no : K.lookup a = none := Option.eq_none_iff_forall_not_mem.mpr fun o h => own ⟨o, h⟩
    let u0 : HO := .frz { cls := .type "list", data := .seq vs.toArray } (.lst (ns.map V.int))
    have at_ : ∀ {b u}, (if b = a then some u0 else none) = some u → b = a ∧ u = u0 := fun {b u} z => by
      by_cases e : b = a
      · rw [if_pos e] at z; exact ⟨e, (Option.some.inj z).symm⟩
      · rw [if_neg e] at z; cases z
    refine ⟨fun b => if b = a then some u0 else none, fun b => ?_, .inl (.inr ⟨_, if_pos rfl⟩), fun b u z => ?_, fun b u z => ⟨(at_ z).1, no⟩⟩
    · by_cases e : b = a
      · exact .inr ⟨_, _, if_pos e⟩
      · exact .inl (if_neg e)
    · obtain ⟨e1, e2⟩ := at_ z
      subst e1 e2
      exact ⟨ha, by rw [List.length_map]; exact hl, vs, _, rv, ha⟩
/-- a law is called: no guard stands there -/
theorem law_go {mg mb : Str → Option Value} {CX : CXT} {k : Nat} {fa : Addr} {fd : FuncData} {x : Str} {sp : Sp} (KX : K.In s.heap) (nm : s.heap.Ns mainGlobals mg) (nb : s.heap.Ns builtinsNs mb) (eb : ∀ y : Str, y ≠ "__name__" → mb y = bootBuiltins y) (lim : s.heap.NoLimit) (gens : s.gens = #[])
    (ha : s.heap.get? a = some { cls := .type "list", data := .seq vs.toArray }) (hi : IntsAre vs ns) (hl : ns.length ≤ sizeLine) (hr : Room k callerA)
    (F : ∀ base : Heap, FnG P w K mg base CX k fa fd [x] sp) (bd : ∀ (s : Shared) (u : Value), BindsTo s fd ⟨[u], []⟩ [(x, u)])
    (hsp : ∀ H : Hp, Only H → SqL K H a (ns.map V.int) → sp [.ref a] H (fun v _ => v = .bl true) fun _ _ _ => False) (hCX : ∀ H e s', CX [] H s (fun _ _ _ => False) e s' → False) :
    codeAny (model P w) callerA (.call (.ref fa) ⟨[.ref a], []⟩) (fun r t => r = .ok (.ret (.bool true)) ∧ OldK s.heap t.heap ∧ t.os = s.os ∧ AllBare t.gens) s := by
  obtain ⟨H, only, sq, hok, at_⟩ := first_hp (P := P) (w := w) KX ha hi hl
  have off : ∀ {b : Addr} {o : Obj}, s.heap.get? b = some o → (b = a → K.lookup a = none → False) → (hidT s.heap H).get? b = some o := fun {b o} e h => hidT_get e (by
    cases q : H b with
    | none => rfl
    | some u => exact (h (at_ b u q).1 (at_ b u q).2).elim)
  have names : ∀ {b : Addr} {m : Str → Option Value}, s.heap.Ns b m → (hidT s.heap H).Ns b m := by
    rintro b m ⟨o, es, ep, e, d, r⟩
    refine ⟨o, es, ep, off e fun eb _ => ?_, d, r⟩
    subst eb
    rw [ha] at e
    cases e
    cases d
  have KB : K.In (hidT s.heap H) := fun b o e => off (KX b o e) fun eb z => by subst eb; rw [z] at e; cases e
  obtain ⟨mc, l1, l2⟩ := lim
  have md : Mod K mg (hidT s.heap H) := ⟨KB, names nm, ⟨mb, names nb, eb⟩, mc, names l1, l2⟩
  have nil : ∀ {b : Addr}, b ∈ ([] : List Addr) → False := fun z => List.not_mem_nil z
  have e0 : Env0 P w K mg (hidT s.heap H) callerA [] s H := ⟨rfl, md, fun _ _ e => of_hidT e, Nat.le_of_eq (hidT_size _ _), trivial, fun _ z => (nil z).elim, hok, .of_eq gens⟩
  have run := (F (hidT s.heap H)).go callerA [] s H ⟨[.ref a], []⟩ [.ref a] [.ref a] _ _ rfl hr e0 (bd s (.ref a)) (.cons rfl .nil) (hsp H only sq)
  refine codeAny_mono run ?_
  rintro (e | fl) t h
  · exact (hCX H _ t h).elim
  · rcases fl with _ | _ | _ | u
    · exact h.elim
    · exact h.elim
    · exact h.elim
    · obtain ⟨v, H1, os, bare, un, hok1, rv, q⟩ := h
      subst q
      obtain rfl : u = Value.bool true := rv
      refine ⟨rfl, OldK.of_keep fun b o e => ?_, os, bare⟩
      cases q : H b with
      | none => exact un.keep b o e q (fun z => nil z) nil
      | some u =>
        rcases only b with z | ⟨ob, xs, z⟩
        · rw [q] at z; cases z
        · have e1 := (hok b _ z).1
          rw [e] at e1
          cases e1
          exact (hok1 b _ (un.frzs b _ _ z)).1
end
end WM
set_option maxHeartbeats 1000000
namespace WM
open PySem PySem.Spec PyProof.Rows L2
section
variable {P : Program} {w : World} {K : PySem.W.Frag} {mg : Str → Option Value} {base : Heap} {CX : CXT} {k : Nat} {f : Addr} {fd : FuncData} {ps N : List Str} {sp : Spc} {x qual : Str} {params : Arguments} {body : List Stmt} {scope : Scope} {dvs : List V} {kws : List (Str × V)}
theorem fnG_w (F : FunD K x qual params body scope dvs kws f fd) (S : FnScope N ps scope) (len : ∀ ds S Q X, sp ds S Q X → ds.length = ps.length) (w0 : WS)
    (walk : ∀ (cdv : Value) (A : Around) (outer : List PySem.Env) (s : Shared) (H : Hp) (E : XK) (B : Bs), A.guards = some [] → Room k (A.deeper (envOfC qual scope s.heap.objs.size f cdv)) → PSs (cxOf CX P w K mg base N qual scope f cdv A outer s H E) body (tS K none B (fun cls d _ H => E cls d H) w0))
    (law : ∀ ds S Q X, wf S → (∀ k ∈ refsL ds, k < S.length) → sp ds S Q X → w0 (envOf N.length ds) S (kt S.length Q X)) : FnG P w K mg base CX (k + 1) f fd ps (spOf K sp) := by
  refine fnG_ok F S (fun vs H Q E h => ?_) (fun cdv A outer s H vs Q E hg hr h => ?_)
  · obtain ⟨B, S, F, ρ, ds, Qn, Qx, R, rr, hsp, _⟩ := h
    rw [rr.length]; exact len _ _ _ _ hsp
  · obtain ⟨B, S, F, ρ, ds, Qn, Qx, R, rr, hsp, P1, P2⟩ := h
    refine ⟨fun D σ H' => ∃ B', tS K none B' (fun cls d _ H => E cls d H) w0 D σ H', ⟨fun pins s' σ H' D I ⟨B', q⟩ => (walk cdv A outer s H E B' hg hr).run pins s' σ H' D I q⟩, ?_⟩
    have hl := R.len
    have out : ∀ d S' v H' F' ρ', fin S.length Qn d S' → Rel K (sub S F ρ H) S' F' ρ' H' → Ext F ρ F' ρ' → Rep K F' ρ' v d → Q v H' := by
      rintro d S' v H' F' ρ' ⟨d2, S2, z, q⟩ R' e' r'
      obtain ⟨F2, ρ2, R2, e2, r2⟩ := z.rep hl R' e' r'
      exact P1 _ _ _ _ _ _ q (R.leave R2 e2) e2 r2
    refine ⟨sub S F ρ H, envOf N.length ds, S, F, ρ, kt S.length Qn Qx, R.enter, envOf_rel rr N, law ds S Qn Qx R.wf (by rw [← R.len]; exact rr.bound) hsp, ⟨fun env S' σ H' F' ρ' q R' e' E' => ?_, fun d S' v H' F' ρ' q R' e' r' => ?_, fun _ _ _ _ _ _ q => q.elim, fun _ _ _ _ _ _ q => q.elim, fun c fs env S' dxo σ H' F' ρ' q R' e' E' r' => ?_⟩⟩
    · exact out _ _ _ _ _ _ q R' e' rfl
    · exact out _ _ _ _ _ _ q R' e' r'
    · obtain ⟨fs2, S2, z, q⟩ := q
      obtain ⟨F2, ρ2, R2, e2, r2⟩ := z.rep hl R' e' r'
      exact P2 _ _ _ _ _ _ _ q (R.leave R2 e2) e2 r2
end
/-- a law's end: its def may ask for repr() -/
theorem walk_ofG {l : PySem.W.OpenLaw} {n k : Nat} {q : Program} {loose : List Str} {XP : (Str → Option Value) → Heap → Prop} {YP : World → Heap → Prop} {d : DefRec} {CX : World → CXT} {x : Str}
    (hn : l.most = some n) (hn2 : n ≤ sizeLine) (hdf : d.params.defaults = []) (hr : Room k callerA)
    (F : ∀ (w : World) (mg : Str → Option Value) (fa : Addr) (h : Heap), YP w h → h.Ns mainGlobals mg → mg d.name = some (.ref fa) →
      ∃ (K : PySem.W.Frag) (fd : FuncData) (sp : Sp), K.In h ∧ (∀ (s : Shared) (u : Value), BindsTo s fd ⟨[u], []⟩ [(x, u)]) ∧
        (∀ (H : Hp) (a : Addr) (ns : List Int), ns.length ≤ n → Only H → SqL K H a (ns.map V.int) → sp [.ref a] H (fun v _ => v = .bl true) fun _ _ _ => False) ∧
        ∀ base : Heap, FnG l.prog w K mg base (CX w) k fa fd [x] sp)
    (hCX : ∀ (w : World) (H : Hp) (s : Shared) (e : Value) (s' : Shared), CX w [] H s (fun _ _ _ => False) e s' → False) :
    PySem.W.WalkO q loose XP YP l.row.toRowW d [] (fun f vs => PySem.call f vs) :=
  Att.attach_call hn hdf fun w s₀ s₁ mg mb fa o pm cd doc a vs ns G Y ho hd hcd hmg hobj hints hlen hg => by
    obtain ⟨K, fd, sp, KX, hb, hsp, hF⟩ := F w mg fa _ Y G.T.g hmg
    exact law_go KX G.T.g G.T.b G.T.builtins G.T.nolimit hg hobj hints (Nat.le_trans hlen hn2) hr hF hb (fun H hO hS => hsp H a ns hlen hO hS) fun H e s' => hCX w H s₁ e s'
end WM
set_option maxHeartbeats 1000000
namespace WM
open PySem PySem.Spec PyProof.Rows L2
end WM
set_option maxHeartbeats 1000000
namespace WM
open PySem PySem.Spec PyProof.Rows L2
section
variable {X : Cx} {xi : Xi} {B : Bs} {W : WX}
/-- x in o (neg: not in) -/
def wInO (c : String) (sp : Spc) (neg : Bool) (a b : WE) : WT := fun σ S Q X => a σ S (fun x S1 => b σ S1 (fun y S2 => ∃ fs, insOf S2 y = some (c, fs) ∧ sp [y, x] S2 (fun r S3 => ∃ k, r = .bl k ∧ Q (k != neg) S3) noX) X) X
def wEqO (c : String) (sp : Spc) (a b : WE) : WT := fun σ S Q X => a σ S (fun x S1 => b σ S1 (fun y S2 => ∃ fs gs, insOf S2 x = some (c, fs) ∧ insOf S2 y = some (c, gs) ∧ sp [x, y] S2 (fun r S3 => ∃ k, r = .bl k ∧ Q k S3) noX) X) X
variable {c : String} {ps : List Str} {sp : Spc} {k j : Nat} {a b : Expr} {pos : Pos} {wa wb : WE}
end
end WM
set_option maxHeartbeats 1000000
namespace WM
open PySem PySem.Spec PyProof.Rows L2
section
variable {X : Cx} {xi : Xi} {B : Bs} {W : WX}
def wRevT (a : WE) : WE := fun σ S Q X => a σ S (fun x S1 => ∃ ds, deref S1 x = .tup ds ∧ Q (.tup ds.reverse) S1) X
def wRevL (a : WE) : WL := fun σ S Q X => a σ S (fun x S1 => ∃ ds, getL S1 x = some ds ∧ Q ds.reverse S1) X
end
def fReprE (S : Store) (as : List D) : Option D := if as = [.dct false []] then some (.str "{}") else fRepr S as
end WM
set_option maxHeartbeats 1000000
namespace WM
open PySem PySem.Spec PyProof.Rows L2
def keyPy : D → Option PyData
  | .str s => some (.str s)
  | .int i => some (.int i)
  | _ => none
def toPyD : Nat → Store → D → Option PyData
  | _, _, .non => some .none
  | _, _, .bl b => some (.bool b)
  | _, _, .int i => some (.int i)
  | _, _, .str s => some (.str s)
  | n + 1, S, .tup ds => (ds.mapM (toPyD n S)).map .tuple
  | n + 1, S, .lst ds => (ds.mapM (toPyD n S)).map .list
  | n + 1, S, .dct false kvs => (kvs.mapM fun p => (keyPy p.1).bind fun k => (toPyD n S p.2).map fun v => (k, v)).map .dict
  | n + 1, S, .cell k => match S[k]? with
    | some (.lst ds) => (ds.mapM (toPyD n S)).map .list
    | some (.dct false kvs) => (kvs.mapM fun p => (keyPy p.1).bind fun k => (toPyD n S p.2).map fun v => (k, v)).map .dict
    | _ => none
  | _, _, _ => none
section
variable {P : Program} {w : World} {K : PySem.W.Frag} {B : Bs} {S : Store} {F H : Hp} {ρ : List Addr} {s : Shared}
theorem readsAllD {f : D → Option PyData} : ∀ {ds : List D} {vs : List V} {us : List Value} {ps : List PyData}, (∀ d v u p, f d = some p → Rep K F ρ v d → RelV v u → ∃ as, Reads s.heap u p as ∧ sysModules ∉ as) → ds.mapM f = some ps → RepL K F ρ vs ds → Vals vs us → ∃ as, ReadsAll s.heap us ps as ∧ sysModules ∉ as
  | [], [], us, ps, _, h, _, r => by
    cases r
    simp at h; subst h
    exact ⟨[], .nil, by simp⟩
  | d :: ds, v :: vs, us, ps, hd, h, rr, r => by
    cases r with
    | @cons _ u _ us r1 r2 =>
      rw [List.mapM_cons] at h
      cases e1 : f d with
      | none => rw [e1] at h; cases h
      | some p =>
        cases e2 : ds.mapM f with
        | none => rw [e1, e2] at h; cases h
        | some qs =>
          rw [e1, e2] at h; cases h
          obtain ⟨a1, h1, n1⟩ := hd d v u p e1 rr.1 r1
          obtain ⟨a2, h2, n2⟩ := readsAllD hd e2 rr.2 r2
          exact ⟨_, .cons h1 h2, by simp [n1, n2]⟩
  | [], _ :: _, _, _, _, _, h, _ => h.elim
  | _ :: _, [], _, _, _, _, h, _ => h.elim
theorem reads_key {k : Key} {x : Value} {d : D} {p : PyData} (hk : (mixKind P w).is k x = true) (e : kOf k = d) (hp : keyPy d = some p) : ∃ as, Reads s.heap x p as ∧ sysModules ∉ as := by
  subst e
  rcases keyIs_shape hk with ⟨i, t, rfl, rfl⟩ | ⟨z, t, rfl, rfl⟩
  · cases hp; exact ⟨_, .int _ _, by simp⟩
  · cases hp; exact ⟨_, .str _ _, by simp⟩
theorem readsKvD {f : D → Option PyData} (hd : ∀ d v u p, f d = some p → Rep K F ρ v d → RelV v u → ∃ as, Reads s.heap u p as ∧ sysModules ∉ as) : ∀ {kvs : List (D × D)} {ps : List (Key × V)} {vs : List (Key × Value)} {es : List DictEntry} {out : List (PyData × PyData)},
    (kvs.mapM fun p => (keyPy p.1).bind fun k => (f p.2).map fun v => (k, v)) = some out → RepK K F ρ ps kvs → KV ps vs → Pairs (mixKind P w) es vs →
    ∃ as bs, ReadsAll s.heap (es.map (·.key)) (out.map (·.1)) as ∧ ReadsAll s.heap (es.map (·.val)) (out.map (·.2)) bs ∧ sysModules ∉ as ∧ sysModules ∉ bs
  | [], [], vs, es, out, h, _, kv, pr => by
    cases kv
    cases pr
    simp at h; subst h
    exact ⟨[], [], .nil, .nil, by simp, by simp⟩
  | (d, x) :: kvs, (k, v) :: ps, vs, es, out, h, ⟨e, rx, rr⟩, kv, pr => by
    cases kv with
    | cons h1 kv2 =>
      cases pr with
      | cons p1 p2 pr2 =>
        rw [List.mapM_cons] at h
        simp only [] at h
        cases ek : keyPy d with
        | none => rw [ek] at h; cases h
        | some pk =>
          cases ex : f x with
          | none => rw [ek, ex] at h; cases h
          | some px =>
            cases e2 : kvs.mapM fun p => (keyPy p.1).bind fun k => (f p.2).map fun v => (k, v) with
            | none => rw [ek, ex, e2] at h; cases h
            | some qs =>
              rw [ek, ex, e2] at h
              cases h
              obtain ⟨as, bs, r1, r2, n1, n2⟩ := readsKvD hd e2 rr kv2 pr2
              obtain ⟨a1, k1, m1⟩ := reads_key (s := s) p1 (by rw [← h1.1]; exact e) ek
              obtain ⟨a2, k2, m2⟩ := hd x v _ px ex rx h1.2
              rw [← p2] at k2
              exact ⟨_, _, .cons k1 r1, .cons k2 r2, by simp [m1, n1], by simp [m2, n2]⟩
  | [], _ :: _, _, _, _, _, h, _, _ => h.elim
  | _ :: _, [], _, _, _, _, h, _, _ => h.elim
theorem reads_pyD (hok : HOk P w H s.heap) (hs : H sysModules = none) (R : Rel K B S F ρ H) : ∀ (n : Nat) (d : D) (v : V) (u : Value) (p : PyData), toPyD n S d = some p → Rep K F ρ v d → RelV v u → ∃ as, Reads s.heap u p as ∧ sysModules ∉ as := by
  intro n
  induction n with
  | zero =>
    intro d v u p h r rv
    cases d <;> simp [toPyD] at h
    · subst h; cases (show v = _ from r); cases (show u = _ from rv); exact ⟨_, .none, by simp⟩
    · subst h; cases (show v = _ from r); cases (show u = _ from rv); exact ⟨_, .bool _, by simp⟩
    · subst h; cases (show v = _ from r); obtain ⟨t, rfl⟩ := rv; exact ⟨_, .int _ _, by simp⟩
    · subst h; cases (show v = _ from r); obtain ⟨t, rfl⟩ := rv; exact ⟨_, .str _ _, by simp⟩
  | succ n ih =>
    intro d v u p h r rv
    have ns : ∀ (a : Addr) (o : HO), H a = some o → sysModules ≠ a := fun a o ha e => by rw [← e, hs] at ha; cases ha
    have lst : ∀ (a : Addr) (vs : List V) (ds : List D), v = .ref a → H a = some (.lst vs) → RepL K F ρ vs ds → (ds.mapM (toPyD n S)).map PyData.list = some p → ∃ as, Reads s.heap u p as ∧ sysModules ∉ as := by
      intro a vs ds e1 ha rr hm
      subst e1
      obtain rfl : u = Value.ref a := rv
      rw [Option.map_eq_some_iff] at hm
      obtain ⟨ps, hm, rfl⟩ := hm
      obtain ⟨hz, its, k, rvs, hob⟩ := hok a _ ha
      obtain ⟨as, hr, nr⟩ := readsAllD ih hm rr rvs
      exact ⟨_, .list hob rfl rfl (by simpa using hr), by simp [ns a _ ha, nr]⟩
    have dct : ∀ (a : Addr) (ps : List (Key × V)) (kvs : List (D × D)), v = .ref a → Rd H a (.dK ps) → RepK K F ρ ps kvs → (kvs.mapM fun p => (keyPy p.1).bind fun k => (toPyD n S p.2).map fun v => (k, v)).map PyData.dict = some p → ∃ as, Reads s.heap u p as ∧ sysModules ∉ as := by
      intro a ps kvs e1 ha rr hm
      subst e1
      obtain rfl : u = Value.ref a := rv
      rw [Option.map_eq_some_iff] at hm
      obtain ⟨out, hm, rfl⟩ := hm
      obtain ⟨_, hsm, vs, hk, ob, es, ep, hx, hxo, hd, hes, pr, _⟩ := dk_rd hok ha
      obtain ⟨as, bs, r1, r2, n1, n2⟩ := readsKvD ih hm rr hk pr
      refine ⟨_, .dict hx hxo.1 hd r1 r2, ?_⟩
      have : sysModules ≠ a := fun e => by rw [← e] at hsm; simp at hsm
      simp [this, n1, n2]
    cases d with
    | non => simp [toPyD] at h; subst h; cases (show v = _ from r); cases (show u = _ from rv); exact ⟨_, .none, by simp⟩
    | bl b => simp [toPyD] at h; subst h; cases (show v = _ from r); cases (show u = _ from rv); exact ⟨_, .bool _, by simp⟩
    | int i => simp [toPyD] at h; subst h; cases (show v = _ from r); obtain ⟨t, rfl⟩ := rv; exact ⟨_, .int _ _, by simp⟩
    | str z => simp [toPyD] at h; subst h; cases (show v = _ from r); obtain ⟨t, rfl⟩ := rv; exact ⟨_, .str _ _, by simp⟩
    | tup ds =>
      obtain ⟨a, vs, rfl, ha, rr⟩ := r
      obtain rfl : u = Value.ref a := rv
      simp only [toPyD, Option.map_eq_some_iff] at h
      obtain ⟨ps, hm, rfl⟩ := h
      obtain ⟨hz, its, rvs, ob, hob, hc, k, hd⟩ := hok a _ (R.le _ _ ha)
      obtain ⟨as, hr, nr⟩ := readsAllD ih hm rr rvs
      exact ⟨_, .tuple hob hc hd (by simpa using hr), nr⟩
    | lst ds =>
      obtain ⟨a, vs, rfl, ha, rr⟩ := r
      exact lst a vs ds rfl (R.le _ _ ha) rr (by simpa [toPyD] using h)
    | cell k =>
      obtain ⟨a, ha, rfl⟩ := r
      obtain ⟨o, h3, h4⟩ := R.at_cell ha
      simp only [toPyD, h3] at h
      cases o with
      | lst ds =>
        obtain ⟨vs, h5, h6⟩ := h4
        exact lst a vs ds rfl h5 h6 h
      | dct t kvs =>
        cases t with
        | false =>
          obtain ⟨ps, h5, h6⟩ := h4
          exact dct a ps kvs rfl (.inl h5) h6 h
        | true => cases h
      | _ => cases h
    | dct t kvs =>
      cases t with
      | false =>
        obtain ⟨a, ps, rfl, ha, rr⟩ := r
        exact dct a ps kvs rfl (R.le.rd ha) rr (by simpa [toPyD] using h)
      | true => simp [toPyD] at h
    | ins c fs => simp [toPyD] at h
    | scr ns => simp [toPyD] at h
    | fn x => simp [toPyD] at h
    | er c x => simp [toPyD] at h
end
/-- the table of modules is known -/
def sysB (K : PySem.W.Frag) : Bool := (K.lookup sysModules).isSome
def fReprD (S : Store) : List D → Option D
  | [x] => (toPyD 30 S x).bind fun p => guard (p.showable = true ∧ p.depth ≤ 40 ∧ p.shown.length ≤ 1000000) (.str p.shown)
  | _ => none
section
variable {X : Cx} {B : Bs}
theorem sys_free {pins : List (Addr × Obj)} {σ : L2.St} {H : Hp} {s : Shared} (hs : sysB X.K = true) (I : Inv X pins σ H s) : H sysModules = none := by
  unfold sysB at hs
  obtain ⟨o, e⟩ := Option.isSome_iff_exists.mp hs
  exact (I.bs _ _ (I.mod.kin _ _ e)).2
theorem b_reprD (hsb : sysB X.K = true) (hg : X.A.guards = some []) (hu : X.A.units + 60 < cLine) : CallR X (.builtin "repr") (rB X.K B fReprD) := by
  intro pins s σ H vs us Q I rv h
  obtain ⟨S, F, ρ, ds, d, R, r, e, q⟩ := h
  unfold fReprD at e
  split at e
  · rename_i x
    rw [Option.bind_eq_some_iff] at e
    obtain ⟨p, h1, h2⟩ := e
    obtain ⟨⟨hs, hdp, hl⟩, rfl⟩ := guard_some.mp h2
    have hl2 : p.shown.length ≤ sizeLine := Nat.le_trans hl (by decide)
    obtain ⟨v, rfl, rx⟩ := repL1 r
    obtain ⟨u, rfl, ru⟩ := vals1 rv
    have hq : Q (.str p.shown) H := q _ _ _ _ R Ext.refl rfl
    obtain ⟨as, rd, nr⟩ := reads_pyD I.hok (sys_free hsb I) R 30 x v u p h1 rx ru
    have fin : ∀ h' t tk, (∀ b o, s.heap.get? b = some o → h'.get? b = some o) → EP X pins σ Q (.str p.shown t) { s with heap := h', toks := tk } := fun h' t tk k => ⟨.str p.shown, H, I.kept k, ⟨t, rfl⟩, hq⟩
    cases u with
    | ref a => exact repr_of_reads' rd hs (fun _ => nr) hg (by omega) (fun _ _ z => z) (fun h' t tk k => fin h' t tk k) hl2
    | none => cases rd; exact PySem.P.repr_of_none (fin _ _ _ fun _ _ z => z)
    | bool b => cases rd; exact PySem.P.repr_of_bool (fin _ _ _ fun _ _ z => z)
    | int i t => cases rd; exact PySem.P.repr_of_int (by simpa [PyData.showable] using hs) (fin _ _ _ fun _ _ z => z)
    | str z t => cases rd; exact PySem.P.repr_of_str (fin _ _ _ fun _ _ z => z) hl2
    | _ => cases rd
  · cases e
end
end WM
set_option maxHeartbeats 1000000
namespace WM
open PySem PySem.Spec PyProof.Rows L2 He
/-- of the class c itself, or of a built-in type -/
def isoW (c : String) (S : Store) (x : D) : Option Bool := match insOf S x with
  | some (c', _) => if c' = c then some true else none
  | none => (tyB S x).map fun _ => false
def wIso (c : String) (a : WE) : WE := fun σ S Q X => a σ S (fun x S1 => ∃ b, isoW c S1 x = some b ∧ Q (.bl b) S1) X
end WM
set_option maxHeartbeats 1000000
namespace WM
open PySem PySem.Spec PyProof.Rows L2
/-- what stands at a key, or the other value -/
def fGet (S : Store) (x y z : D) : Option D := match deref S x with
  | .dct t kvs => guard (keyOk t y = true) ((kvs.lookup y).getD z)
  | _ => none
def wGet1 (a e : WE) : WE := fun σ S Q X => a σ S (fun x S1 => (∃ t kvs, deref S1 x = .dct t kvs) ∧ e σ S1 (fun y S2 => ∃ d, fGet S2 x y .non = some d ∧ Q d S2) X) X
def wGet2 (a e f : WE) : WE := fun σ S Q X => a σ S (fun x S1 => (∃ t kvs, deref S1 x = .dct t kvs) ∧ e σ S1 (fun y S2 => f σ S2 (fun z S3 => ∃ d, fGet S3 x y z = some d ∧ Q d S3) X) X) X
section
variable {X : Cx} {xi : Xi} {B : Bs} {W : WX}
def wChain3 (f g h : Store → D → D → Option Bool) (a b c d : WE) : WT := fun σ S Q X => a σ S (fun x S1 => b σ S1 (fun y S2 => ∃ k, f S2 x y = some k ∧ if k = true then c σ S2 (fun z S3 => ∃ k2, g S3 y z = some k2 ∧ if k2 = true then d σ S3 (fun v S4 => ∃ k3, h S4 z v = some k3 ∧ Q k3 S4) X else Q false S3) X else Q false S2) X) X
end
end WM
set_option maxHeartbeats 1000000
namespace WM
open PySem PySem.Spec PyProof.Rows L2
def wLenO (c : String) (sp : Spc) (a : WE) : WE := fun σ S Q X => a σ S (fun x S1 => (∃ fs, insOf S1 x = some (c, fs)) ∧ sp [x] S1 (fun r S2 => ∃ n : Nat, r = .int n ∧ n < 1000000 ∧ Q (.int n) S2) noX) X
end WM
set_option maxHeartbeats 1000000
namespace WM
open PySem PySem.Spec PyProof.Rows L2
end WM
set_option maxHeartbeats 1000000
namespace WM
open PySem PySem.Spec PyProof.Rows L2
end WM
set_option maxHeartbeats 1000000
namespace WM
open PySem PySem.Spec PyProof.Rows L2
/-- all objects but those at Z stand -/
def Stays (Z : List Addr) (h h' : Heap) : Prop := ∀ c o, c ∉ Z → h.get? c = some o → h'.get? c = some o
theorem Stays.of {Z : List Addr} {h h' : Heap} {b : Addr} (hs : Heap.ExtBut b h h') (hb : b ∈ Z) : Stays Z h h' := fun c o hc e => hs _ _ (fun q => hc (q ▸ hb)) e
theorem Stays.trans {Z : List Addr} {h h' h'' : Heap} (a : Stays Z h h') (b : Stays Z h' h'') : Stays Z h h'' := fun c o hc e => b c o hc (a c o hc e)
end WM
set_option maxHeartbeats 1000000
namespace WM
open PySem PySem.Spec PyProof.Rows L2
end WM
set_option maxHeartbeats 1000000
namespace WM
open PySem PySem.Spec PyProof.Rows L2
def zipD (a b : List D) : List D := (a.zip b).map fun p => .tup [p.1, p.2]
def wZipM (w : WL) : WI := fun σ S Q X => w σ S (fun ds S1 => ∃ a b, ds = [.lst a, .tup b] ∧ Q (zipD a b) none S1) X
end WM
set_option maxHeartbeats 1000000
namespace WM
open PySem PySem.Spec PyProof.Rows L2
end WM
set_option maxHeartbeats 1000000
namespace WM
open PySem PySem.Spec PyProof.Rows L2
def wNeO (c : String) (sp : Spc) (a b : WE) : WT := fun σ S Q X => a σ S (fun x S1 => b σ S1 (fun y S2 => ∃ fs gs, insOf S2 x = some (c, fs) ∧ insOf S2 y = some (c, gs) ∧ sp [x, y] S2 (fun r S3 => ∃ k, r = .bl k ∧ Q (!k) S3) noX) X) X
end WM
set_option maxHeartbeats 1000000
namespace WM
open PySem PySem.Spec PyProof.Rows L2
/-- the promise of __init__(self) -/
def spX0 (C : Addr) : Sp := fun vs H Q _ => ∃ a : Addr, vs = [.ref a] ∧ H a = some (exo a C none) ∧ Q .non H
/-- an own error x without a field -/
structure KnowE0 (P : Program) (w : World) (K : PySem.W.Frag) (mg : Str → Option Value) (base : Heap) (x : String) : Prop where
  ex : ∃ fI fd ps, OexC K (He.ga K x) ∧ PySem.W.findIn K (.ref (He.ga K x)) "__init__" = some (some (.ref fI)) ∧ PySem.W.typeIn K (.ref fI) = some (.type "function") ∧ FnOk P w K mg base (L2N.CX P w) 1 fI fd ps (spX0 (He.ga K x)) ∧ Binds K fd ps [] ∧ mg x = some (.ref (He.ga K x))
/-- raise c() -/
def wRaise0 (c : String) : WS := fun σ S k => k.ex c [] σ S
section
variable {P : Program} {w : World} {K : PySem.W.Frag} {mg : Str → Option Value} {base : Heap} {fn : Addr} {fd : FuncData} {nm qual : Str} {params : Arguments} {s1 : Stmt} {scope : Scope} {C : Addr} {z : Str}
theorem x0init_ok (F : FunD K nm qual params [s1] scope [] [] fn fd) (S : FnScope ["self"] ["self"] scope) (T : OexC K C)
    (h1 : ∀ (cdv : Value) (A : Around) (outer : List PySem.Env) (s : Shared) (H : Hp) (E : XK), PS (cxOf (L2N.CX P w) P w K mg base ["self"] qual scope fn cdv A outer s H E) s1 (fun D σ H => tVeI K (tCons (tVar 0) (tCons (tC (.str z)) tNil)) σ H fun _ H1 => D.nx σ H1)) :
    FnOk P w K mg base (L2N.CX P w) 1 fn fd ["self"] (spX0 C) := by
  refine F.ok S (fun vs H Q E h => ?_) (fun cdv A outer s H vs Q E hr h => ⟨_, pss_one (h1 cdv A outer s H E), ?_⟩)
  · obtain ⟨a, rfl, _⟩ := h; rfl
  obtain ⟨a, rfl, ha, q⟩ := h
  exact ⟨_, rfl, a, C, _, rfl, by show 1 ≤ 1000; decide, T, ha, q⟩
end
/-- an error's own things -/
def one0B (K : PySem.W.Frag) (x : String) : Bool := oexB K (He.ga K x) && (He.eqO (PySem.W.findIn K (.ref (He.ga K x)) "__init__") (some (some (.ref (He.ma K (He.ga K x) "__init__")))) && decide (PySem.W.typeIn K (.ref (He.ma K (He.ga K x) "__init__")) = some (.type "function")))
theorem knowE0_of {P : Program} {w : World} {K : PySem.W.Frag} {mg : Str → Option Value} {base : Heap} {x : String} {ps : List Str} {fd : FuncData} (h : one0B K x = true) (F : OexC K (He.ga K x) → FnOk P w K mg base (L2N.CX P w) 1 (He.ma K (He.ga K x) "__init__") fd ps (spX0 (He.ga K x))) (hb : Binds K fd ps [])
    (hm : mg x = some (.ref (He.ga K x))) : KnowE0 P w K mg base x := by
  unfold one0B at h
  obtain ⟨h1, h⟩ := He.ba h
  obtain ⟨h2, h3⟩ := He.ba h
  have T := oexB_ok h1
  exact ⟨⟨_, fd, ps, T, He.eqO_ok h2, of_decide_eq_true h3, F T, hb, hm⟩⟩
end WM
set_option maxHeartbeats 2000000
namespace WM
open PySem PySem.Spec PyProof.Rows L2
end WM
set_option maxHeartbeats 2000000
namespace WM
open PySem PySem.Spec PyProof.Rows L2
/-- the entries so far: acc; the keys are tuples -/
def dcompTW (b : D → Env → (Env → Prop) → Prop) (t : WT) (ek ev : WE) (g : Option Nat) (S0 : Store) : List D → Env → Store → List (D × D) → (List (D × D) → Store → Prop) → Prop
  | [], _, S, acc, Q => Q acc S
  | d :: ds, σ, S, acc, Q => b d σ fun σ1 => t σ1 S (fun k S1 => if k = true then ek σ1 S1 (fun y S2 => ev σ1 S2 (fun z S3 => keyOk true y = true ∧ acc.length < sizeLine ∧ still g S0 S3 ∧ dcompTW b t ek ev g S0 ds σ S3 (dput acc y z) Q) noX) noX else still g S0 S1 ∧ dcompTW b t ek ev g S0 ds σ S1 acc Q) noX
def wDcompT (vs : List Nat) (b : D → Env → (Env → Prop) → Prop) (i : WI) (t : WT) (ek ev : WE) : WE := fun σ S Q X => i σ S (fun items g S1 => items.length ≤ sizeLine ∧ dcompTW b t ek ev g S1 items (wipeE σ vs) S1 [] fun kvs S2 => Q (.cell S2.length) (S2 ++ [.dct true kvs])) X
section
variable {X : Cx} {xi : Xi} {B : Bs} {W : WX}
/-- sorted(d), d with tuple keys -/
def wSortT (w : WL) : WL := fun σ S Q X => w σ S (fun ds S1 => ∃ x kvs ps, ds = [x] ∧ deref S1 x = .dct true kvs ∧ (kvs.map (·.1)).mapM (toPy 9 S1) = some ps ∧ srtOk ps ∧ Q ((((kvs.map (·.1)).zip ps).mergeSort (PySem.W.dataLe false (·.2))).map (·.1)) S1) X
end
end WM
set_option maxHeartbeats 1000000
namespace WM
open PySem PySem.Spec PyProof.Rows L2
end WM
set_option maxHeartbeats 2000000
namespace WM
open PySem PySem.Spec PyProof.Rows L2
end WM
set_option maxHeartbeats 1000000
namespace WM
open PySem PySem.Spec PyProof.Rows L2
def sealD (S : Store) : D → Option (D × Store)
  | .cell k => match S[k]? with
    | some (.dct t kvs) => some (.dct t kvs, S.set k (.fz t kvs))
    | some (.fz t kvs) => some (.dct t kvs, S)
    | _ => none
  | .dct t kvs => some (.dct t kvs, S)
  | _ => none
/-- slot i tells a dict as data from here on -/
def wSeal (i : Nat) (w : WS) : WS := fun σ S K => ∃ c d S', σ[i]? = some (some c) ∧ sealD S c = some (d, S') ∧ w (σ.set i (some d)) S' K
end WM
set_option maxHeartbeats 1000000
namespace WM
open PySem PySem.Spec PyProof.Rows L2
section
variable {X : Cx} {xi : Xi} {B : Bs} {W : WX} {c m : String} {ps : List Str} {sp : Spc} {k j : Nat} {a b : Expr} {pos : Pos} {wa wb : WE} {op : Operator}
def wOpO (c : String) (sp : Spc) (a b : WE) : WE := fun σ S Q X => a σ S (fun x S1 => b σ S1 (fun y S2 => ∃ fs gs, insOf S2 x = some (c, fs) ∧ insOf S2 y = some (c, gs) ∧ sp [x, y] S2 Q X) X) X
end
end WM
set_option maxHeartbeats 1000000
namespace WM
open PySem PySem.Spec PyProof.Rows L2
section
variable {K : PySem.W.Frag} {B : Bs} {S : Store} {F H : Hp} {ρ : List Addr}
def itemsD (kvs : List (D × D)) : List D := kvs.map fun p => .tup [p.1, p.2]
end
section
variable {X : Cx} {xi : Xi} {B : Bs} {W : WX} {e : Expr} {wa : WE} {p apos cpos pos : Pos}
def wListItems (a : WE) : WL := fun σ S Q X => a σ S (fun d S1 => ∃ k kvs, dctC S1 d = some (k, false, kvs) ∧ Q (itemsD kvs) S1) X
end
end WM
set_option maxHeartbeats 1000000
namespace WM
open PySem PySem.Spec PyProof.Rows L2
def dmerge (acc kvs : List (D × D)) : List (D × D) := kvs.foldl (fun a p => dput a p.1 p.2) acc
section
variable {X : Cx} {xi : Xi} {B : Bs} {W : WX}
def wDictP (w : WL) : WE := fun σ S Q X => w σ S (fun ds S1 => ∃ x kvs, ds = [x] ∧ deref S1 x = .lst (itemsD kvs) ∧ (∀ p ∈ kvs, flatK p.1 = true) ∧ Q (.cell S1.length) (S1 ++ [.dct false (dmerge [] kvs)])) X
end
end WM
set_option maxHeartbeats 1000000
namespace WM
open PySem PySem.Spec PyProof.Rows L2
end WM
set_option maxHeartbeats 1000000
namespace WM
open PySem PySem.Spec PyProof.Rows L2
/-- positional values, then the keywords' values in the parameters' order -/
def reo {α : Type} (perm : List Nat) (us ws : List α) : List α := us ++ perm.filterMap (ws[·]?)
theorem vals_perm {zs : List V} {ws : List Value} (h : Vals zs ws) : ∀ perm : List Nat, Vals (perm.filterMap (zs[·]?)) (perm.filterMap (ws[·]?))
  | [] => .nil
  | i :: perm => by
    rw [List.filterMap_cons, List.filterMap_cons]
    cases e : zs[i]? with
    | none => rw [Vals.none_of h e]; exact vals_perm h perm
    | some z =>
      obtain ⟨w, e2, r⟩ := Vals.get h e
      rw [e2]
      exact .cons r (vals_perm h perm)
theorem reo_vals (perm : List Nat) {vs zs : List V} {us ws : List Value} (h1 : Vals vs us) (h2 : Vals zs ws) : Vals (reo perm vs zs) (reo perm us ws) := h1.append (vals_perm h2 perm)
section
variable {K : PySem.W.Frag} {F : Hp} {ρ : List Addr}
theorem repl_get : ∀ {zs : List V} {es : List D} (i : Nat), RepL K F ρ zs es → (zs[i]? = none ∧ es[i]? = none) ∨ ∃ z d, zs[i]? = some z ∧ es[i]? = some d ∧ Rep K F ρ z d
  | [], [], _, _ => .inl ⟨rfl, rfl⟩
  | z :: _, d :: _, 0, h => .inr ⟨z, d, rfl, rfl, h.1⟩
  | _ :: zs, _ :: es, i + 1, h => by
    simp only [List.getElem?_cons_succ]
    exact repl_get i h.2
  | [], _ :: _, _, h => h.elim
  | _ :: _, [], _, h => h.elim
end
theorem kbindsN {K : PySem.W.Frag} {x qual : Str} {params : Arguments} {body : List Stmt} {scope : Scope} {kws : List (Str × V)} {f : Addr} {fd : FuncData} {ps : List Str} (F : FunD K x qual params body scope [] kws f fd) (n : Nat) (ks : List Str) (perm : List Nat)
    (h : ∀ (kV doc pm : Value) (an : Option Addr) (cdv ct : Value) (us ws : List Value), us.length = n → ws.length = ks.length → bindArgs (PySem.W.fnOf x qual params body scope .none kV doc pm an cdv ct) ⟨us, ks.zip ws⟩ = pure (ps.zip (reo perm us ws))) : KBn K fd ps n ks (reo perm) (reo perm) := by
  obtain ⟨oc, od, dV, kV, doc, pm, an, cdv, ct, osl, rfl, lk, hcd, hD, hK⟩ := F.ex
  rcases hD with ⟨_, rfl⟩ | ⟨e, _⟩
  · exact ⟨fun s us ws _ l1 l2 => .of_eq (h kV doc pm an cdv ct us ws l1 l2), fun r1 r2 => reo_vals perm r1 r2⟩
  · exact absurd rfl e
section
variable {X : Cx} {xi : Xi} {B : Bs} {W : WX}
theorem k_nil : PK X [] (tL X.K xi B W wNil) := ⟨fun pos pins s σ H Q I h => pk_nil.run pos pins s σ H Q I (by
  obtain ⟨env, S, F, ρ, Qn, Qx, R, E, h2, P, PX⟩ := h
  exact P [] S [] H F ρ h2 R Ext.refl True.intro)⟩
end
def wCallK (sp : Spc) (n m : Nat) (perm : List Nat) (w wk : WL) : WE := fun σ S Q X => w σ S (fun ds S1 => wk σ S1 (fun es S2 => ds.length = n ∧ es.length = m ∧ sp (reo perm ds es) S2 Q X) X) X
def wMakeK (c : String) (sp : Spc) (n m : Nat) (perm : List Nat) (w wk : WL) : WE := fun σ S Q X => w σ S (fun ds S0 => wk σ S0 (fun es S1 => ds.length = n ∧ es.length = m ∧ sp (reo perm (.cell S1.length :: ds) es) (S1 ++ [.ins c []])
  (fun d S2 => d = .non ∧ ∃ o t, S2 = S1 ++ [o] ∧ o.tree = some t ∧ S1.length ∉ o.refs ∧ Q t S1) (fun c' fs S2 => ∃ o, S2 = S1 ++ [o] ∧ S1.length ∉ refsF fs ∧ X c' fs S1)) X) X
section
variable {X : Cx} {xi : Xi} {B : Bs} {W : WX} {k j n : Nat} {ps ks : List Str} {perm : List Nat} {sp : Spc} {c : String} {x : Str} {p pos kpos : Pos} {e : Expr} {es : List Expr} {kws : List Keyword} {w wk : WL} {a : WE} {nm : Option Str}
theorem PK.weak {t u : TA} (h : PK X kws t) (i : ∀ σ H Q, u σ H Q → t σ H Q) : PK X kws u := ⟨fun pos pins s σ H Q I q => h.run pos pins s σ H Q I (i σ H Q q)⟩
theorem k_cons (ha : PE X e (tE X.K xi B W a)) (hr : PK X kws (tL X.K xi B W w)) : PK X (⟨nm, e, kpos⟩ :: kws) (tL X.K xi B W (wCons a w)) :=
  PK.weak (pk_cons ha hr) fun σ H Q ⟨env, S, F, ρ, Qn, Qx, R, E, h2, P, PX⟩ => ⟨env, S, F, ρ, _, Qx, R, E, h2, fun d S1 v H1 F1 ρ1 q1 R1 e1 r1 =>
    ⟨env, S1, F1, ρ1, _, Qx, R1, E.mono e1, q1, fun ds S2 vs H2 F2 ρ2 q2 R2 e2 r2 => P _ S2 _ H2 F2 ρ2 q2 R2 (e1.trans e2) ⟨r1.mono e2, r2⟩, PX.ext e1⟩, PX⟩
end
end WM
set_option maxHeartbeats 1000000
namespace WM
open PySem PySem.Spec PyProof.Rows L2
def wCallV (i : Nat) (tbl : List (String × Spc)) (w : WL) : WE := fun σ S Q X => ∃ x sp, σ[i]? = some (some (.fn x)) ∧ (x, sp) ∈ tbl ∧ w σ S (fun ds S1 => sp ds S1 Q X) X
end WM
set_option maxHeartbeats 1000000
namespace WM
open PySem PySem.SeqAt PySem.MeetsSeq PySem.AutoSeq1
/-- a dict stands at b -/
def DictAt (h : Heap) (b : Addr) : Prop := ∃ o, h.get? b = some o ∧ o.cls = .type "dict" ∧ ∃ es n, o.data = .dict es n
theorem tuple_eq_declines_dict (l b : Addr) (items : Array Value) (n : Nat) (dd : Option Addr) (sl : Array (Option Value)) (o : Obj) :
    Meets (Builtin.«tuple.__eq__» ⟨[.ref l, .ref b], []⟩) (fun _ R s => s.heap.get? l = some { cls := .type "tuple", dict := dd, data := .seq items n, slots := sl } ∧ s.heap.get? b = some o ∧ o.cls = .type "dict" ∧ R (.ok (.ret .notImplemented)) s) :=
  .of_wp fun prog w A R s h => by obtain ⟨hp, g, d, tk, os⟩ := s; obtain ⟨hl, hb, hc, h⟩ := h; obtain ⟨cls, d2, data, sl2⟩ := o; subst hc; have f1 := F.sub_dict_tuple; wp_walk using wpAny_loadPart' hl, wpAny_loadPart' hb, wpAny_load hb; exact ⟨_, rfl, h⟩
theorem dict_eq_declines_tuple (l b : Addr) (items : Array Value) (n : Nat) (dd : Option Addr) (sl : Array (Option Value)) (o : Obj) :
    Meets (Builtin.«dict.__eq__» ⟨[.ref b, .ref l], []⟩) (fun _ R s => s.heap.get? l = some { cls := .type "tuple", dict := dd, data := .seq items n, slots := sl } ∧ s.heap.get? b = some o ∧ o.cls = .type "dict" ∧ R (.ok (.ret .notImplemented)) s) :=
  .of_wp fun prog w A R s h => by obtain ⟨hp, g, d, tk, os⟩ := s; obtain ⟨hl, hb, hc, h⟩ := h; obtain ⟨cls, d2, data, sl2⟩ := o; subst hc; have f1 := F.sub_tuple_dict; wp_walk using wpAny_loadPart' hl, wpAny_loadPart' hb, wpAny_load hb; exact ⟨_, rfl, h⟩
section
variable {A : Around} {s : Shared}
theorem ne_of_tuple_dict {l b : Addr} {items : Array Value} (hl : s.heap.IsTuple l items) (hb : DictAt s.heap b) : l ≠ b := fun e => by
  subst e
  obtain ⟨o, ho, hc, _⟩ := hl
  obtain ⟨o2, ho2, hc2, _⟩ := hb
  rw [ho] at ho2
  cases ho2
  rw [hc] at hc2
  exact absurd hc2 (by simp)
theorem rc_tuple_dict {l b : Addr} {items : Array Value} (hl : s.heap.IsTuple l items) (hb : DictAt s.heap b) (hu : A.units < cLine) : RcAt A s (.ref l) (.ref b) false := fun prog w E Q h => by
  have hne := ne_of_tuple_dict hl hb
  obtain ⟨⟨cls, dd, data, sl⟩, ho, hc, n, hd⟩ := id hl
  obtain ⟨o2, ho2, hc2, es2, n2, hd2⟩ := id hb
  simp only at hc hd
  subst hc hd
  exact (rc_eq_decline_or (k := false) ⟨_, ho, rfl⟩ ⟨_, ho2, hc2⟩ (by decide) F.sub_dict_tuple F.slot_tuple_eq F.slot_dict_eq_refl
    (fun _ hq => call_meets F.slot_tuple_eq ⟨_, ho, rfl⟩ F.entry_tuple_eq (F.args_tuple_eq_2 _ _) (tuple_eq_declines_dict l b items n dd sl o2) ⟨ho, ho2, hc2, hq⟩)
    (fun _ hq => call_meets F.slot_dict_eq_refl ⟨_, ho2, hc2⟩ F.entry_dict_eq (F.args_dict_eq_2 _ _) (dict_eq_declines_tuple l b items n dd sl o2) ⟨ho, ho2, hc2, hq⟩)
    (fun _ hq => wpAny_isSame_ref_other' hne ho ho2 (by rw [hc2]; simp) hq) (.inr hu) h)
theorem rc_dict_tuple {l b : Addr} {items : Array Value} (hl : s.heap.IsTuple l items) (hb : DictAt s.heap b) (hu : A.units < cLine) : RcAt A s (.ref b) (.ref l) false := fun prog w E Q h => by
  have hne := ne_of_tuple_dict hl hb
  obtain ⟨⟨cls, dd, data, sl⟩, ho, hc, n, hd⟩ := id hl
  obtain ⟨o2, ho2, hc2, es2, n2, hd2⟩ := id hb
  simp only at hc hd
  subst hc hd
  exact (rc_eq_decline_or (k := false) ⟨_, ho2, hc2⟩ ⟨_, ho, rfl⟩ (by decide) F.sub_tuple_dict F.slot_dict_eq F.slot_tuple_eq_refl
    (fun _ hq => call_meets F.slot_dict_eq ⟨_, ho2, hc2⟩ F.entry_dict_eq (F.args_dict_eq_2 _ _) (dict_eq_declines_tuple l b items n dd sl o2) ⟨ho, ho2, hc2, hq⟩)
    (fun _ hq => call_meets F.slot_tuple_eq_refl ⟨_, ho, rfl⟩ F.entry_tuple_eq (F.args_tuple_eq_2 _ _) (tuple_eq_declines_dict l b items n dd sl o2) ⟨ho, ho2, hc2, hq⟩)
    (fun _ hq => wpAny_isSame_ref_other hne.symm ho2 ho (by rw [hc2]; simp) hq) (.inr hu) h)
theorem eq_tuple_dict {l b : Addr} {items : Array Value} (hl : s.heap.IsTuple l items) (hb : DictAt s.heap b) (hu : A.units < cLine) : EqAt A s (.ref l) (.ref b) false := .of_refs (ne_of_tuple_dict hl hb) (rc_tuple_dict hl hb hu)
theorem eq_dict_tuple {l b : Addr} {items : Array Value} (hl : s.heap.IsTuple l items) (hb : DictAt s.heap b) (hu : A.units < cLine) : EqAt A s (.ref b) (.ref l) false := .of_refs (ne_of_tuple_dict hl hb).symm (rc_dict_tuple hl hb hu)
end
theorem list_eq_declines_dict (l b : Addr) (items : Array Value) (n : Nat) (dd : Option Addr) (sl : Array (Option Value)) (o : Obj) :
    Meets (Builtin.«list.__eq__» ⟨[.ref l, .ref b], []⟩) (fun _ R s => s.heap.get? l = some { cls := .type "list", dict := dd, data := .seq items n, slots := sl } ∧ s.heap.get? b = some o ∧ o.cls = .type "dict" ∧ R (.ok (.ret .notImplemented)) s) :=
  .of_wp fun prog w A R s h => by obtain ⟨hp, g, d, tk, os⟩ := s; obtain ⟨hl, hb, hc, h⟩ := h; obtain ⟨cls, d2, data, sl2⟩ := o; subst hc; have f1 := F.sub_dict_list; wp_walk using wpAny_loadPart' hl, wpAny_loadPart' hb, wpAny_load hb; exact ⟨_, rfl, h⟩
theorem dict_eq_declines_list (l b : Addr) (items : Array Value) (n : Nat) (dd : Option Addr) (sl : Array (Option Value)) (o : Obj) :
    Meets (Builtin.«dict.__eq__» ⟨[.ref b, .ref l], []⟩) (fun _ R s => s.heap.get? l = some { cls := .type "list", dict := dd, data := .seq items n, slots := sl } ∧ s.heap.get? b = some o ∧ o.cls = .type "dict" ∧ R (.ok (.ret .notImplemented)) s) :=
  .of_wp fun prog w A R s h => by obtain ⟨hp, g, d, tk, os⟩ := s; obtain ⟨hl, hb, hc, h⟩ := h; obtain ⟨cls, d2, data, sl2⟩ := o; subst hc; have f1 := F.sub_list_dict; wp_walk using wpAny_loadPart' hl, wpAny_loadPart' hb, wpAny_load hb; exact ⟨_, rfl, h⟩
section
variable {A : Around} {s : Shared}
theorem ne_of_list_dict {l b : Addr} {items : Array Value} (hl : s.heap.IsList l items) (hb : DictAt s.heap b) : l ≠ b := fun e => by
  subst e
  obtain ⟨o, ho, hc, _⟩ := hl
  obtain ⟨o2, ho2, hc2, _⟩ := hb
  rw [ho] at ho2
  cases ho2
  rw [hc] at hc2
  exact absurd hc2 (by simp)
theorem rc_list_dict {l b : Addr} {items : Array Value} (hl : s.heap.IsList l items) (hb : DictAt s.heap b) (hu : A.units < cLine) : RcAt A s (.ref l) (.ref b) false := fun prog w E Q h => by
  have hne := ne_of_list_dict hl hb
  obtain ⟨⟨cls, dd, data, sl⟩, ho, hc, n, hd⟩ := id hl
  obtain ⟨o2, ho2, hc2, es2, n2, hd2⟩ := id hb
  simp only at hc hd
  subst hc hd
  exact (rc_eq_decline_or (k := false) ⟨_, ho, rfl⟩ ⟨_, ho2, hc2⟩ (by decide) F.sub_dict_list F.slot_list_eq F.slot_dict_eq_refl
    (fun _ hq => call_meets F.slot_list_eq ⟨_, ho, rfl⟩ F.entry_list_eq (F.args_list_eq_2 _ _) (list_eq_declines_dict l b items n dd sl o2) ⟨ho, ho2, hc2, hq⟩)
    (fun _ hq => call_meets F.slot_dict_eq_refl ⟨_, ho2, hc2⟩ F.entry_dict_eq (F.args_dict_eq_2 _ _) (dict_eq_declines_list l b items n dd sl o2) ⟨ho, ho2, hc2, hq⟩)
    (fun _ hq => wpAny_isSame_ref_other' hne ho ho2 (by rw [hc2]; simp) hq) (.inr hu) h)
theorem rc_dict_list {l b : Addr} {items : Array Value} (hl : s.heap.IsList l items) (hb : DictAt s.heap b) (hu : A.units < cLine) : RcAt A s (.ref b) (.ref l) false := fun prog w E Q h => by
  have hne := ne_of_list_dict hl hb
  obtain ⟨⟨cls, dd, data, sl⟩, ho, hc, n, hd⟩ := id hl
  obtain ⟨o2, ho2, hc2, es2, n2, hd2⟩ := id hb
  simp only at hc hd
  subst hc hd
  exact (rc_eq_decline_or (k := false) ⟨_, ho2, hc2⟩ ⟨_, ho, rfl⟩ (by decide) F.sub_list_dict F.slot_dict_eq F.slot_list_eq_refl
    (fun _ hq => call_meets F.slot_dict_eq ⟨_, ho2, hc2⟩ F.entry_dict_eq (F.args_dict_eq_2 _ _) (dict_eq_declines_list l b items n dd sl o2) ⟨ho, ho2, hc2, hq⟩)
    (fun _ hq => call_meets F.slot_list_eq_refl ⟨_, ho, rfl⟩ F.entry_list_eq (F.args_list_eq_2 _ _) (list_eq_declines_dict l b items n dd sl o2) ⟨ho, ho2, hc2, hq⟩)
    (fun _ hq => wpAny_isSame_ref_other hne.symm ho2 ho (by rw [hc2]; simp) hq) (.inr hu) h)
theorem eq_list_dict {l b : Addr} {items : Array Value} (hl : s.heap.IsList l items) (hb : DictAt s.heap b) (hu : A.units < cLine) : EqAt A s (.ref l) (.ref b) false := .of_refs (ne_of_list_dict hl hb) (rc_list_dict hl hb hu)
theorem eq_dict_list {l b : Addr} {items : Array Value} (hl : s.heap.IsList l items) (hb : DictAt s.heap b) (hu : A.units < cLine) : EqAt A s (.ref b) (.ref l) false := .of_refs (ne_of_list_dict hl hb).symm (rc_dict_list hl hb hu)
end
theorem dict_eq_declines_none (b : Addr) (o : Obj) :
    Meets (Builtin.«dict.__eq__» ⟨[.ref b, .none], []⟩) (fun _ R s => s.heap.get? b = some o ∧ o.cls = .type "dict" ∧ R (.ok (.ret .notImplemented)) s) :=
  .of_wp fun prog w A R s h => by obtain ⟨hp, g, d, tk, os⟩ := s; obtain ⟨hb, hc, h⟩ := h; obtain ⟨cls, d2, data, sl2⟩ := o; subst hc; have f1 := F.sub_NoneType_dict; wp_walk using wpAny_loadPart' hb, wpAny_load hb; exact ⟨_, rfl, h⟩
theorem none_eq_declines_dict (b : Addr) (o : Obj) :
    Meets (Builtin.«NoneType.__eq__» ⟨[.none, .ref b], []⟩) (fun _ R s => s.heap.get? b = some o ∧ o.cls = .type "dict" ∧ (∃ es n, o.data = .dict es n) ∧ R (.ok (.ret .notImplemented)) s) :=
  .of_wp fun prog w A R s h => by obtain ⟨hp, g, d, tk, os⟩ := s; obtain ⟨hb, hc, ⟨es, n, hd⟩, h⟩ := h; obtain ⟨cls, d2, data, sl2⟩ := o; simp only at hc hd; subst hc hd; wp_walk using wpAny_loadPart' hb, wpAny_load hb; exact ⟨_, rfl, h⟩
section
variable {A : Around} {s : Shared}
theorem rc_dict_none {b : Addr} (hb : DictAt s.heap b) (hu : A.units < cLine) : RcAt A s (.ref b) (.none) false := fun prog w E Q h => by
  obtain ⟨o2, ho2, hc2, es2, n2, hd2⟩ := id hb
  exact rc_eq_decline_or (k := false) ⟨_, ho2, hc2⟩ rfl (by decide) F.sub_NoneType_dict F.slot_dict_eq F.slot_NoneType_eq_refl
    (fun _ hq => call_meets F.slot_dict_eq ⟨_, ho2, hc2⟩ F.entry_dict_eq (F.args_dict_eq_2 _ _) (dict_eq_declines_none b  o2) ⟨ho2, hc2, hq⟩)
    (fun _ hq => call_meets F.slot_NoneType_eq_refl rfl F.entry_NoneType_eq (F.args_NoneType_eq_2 _ _) (none_eq_declines_dict b  o2) ⟨ho2, hc2, ⟨es2, n2, hd2⟩, hq⟩)
    (fun _ hq => wpAny_of_eq (rfl : isSame (.ref b) (.none) = pure false) hq) (.inr hu) h
theorem rc_none_dict {b : Addr} (hb : DictAt s.heap b) (hu : A.units < cLine) : RcAt A s (.none) (.ref b) false := fun prog w E Q h => by
  obtain ⟨o2, ho2, hc2, es2, n2, hd2⟩ := id hb
  exact rc_eq_decline_or (k := false) rfl ⟨_, ho2, hc2⟩ (by decide) F.sub_dict_NoneType F.slot_NoneType_eq F.slot_dict_eq_refl
    (fun _ hq => call_meets F.slot_NoneType_eq rfl F.entry_NoneType_eq (F.args_NoneType_eq_2 _ _) (none_eq_declines_dict b  o2) ⟨ho2, hc2, ⟨es2, n2, hd2⟩, hq⟩)
    (fun _ hq => call_meets F.slot_dict_eq_refl ⟨_, ho2, hc2⟩ F.entry_dict_eq (F.args_dict_eq_2 _ _) (dict_eq_declines_none b  o2) ⟨ho2, hc2, hq⟩)
    (fun _ hq => wpAny_of_eq (rfl : isSame (.none) (.ref b) = pure false) hq) (.inr hu) h
theorem eq_dict_none {b : Addr} (hb : DictAt s.heap b) (hu : A.units < cLine) : EqAt A s (.ref b) (.none) false := fun prog w E Q h => by
  unfold eqBool
  refine wpAny_holding ?_
  refine wpAny_ite_split (fun hab => absurd (eq_of_beq hab) nofun) (fun _ => ?_)
  exact wpAny_bind (rc_dict_none  hb hu prog w E _ (wpAny_truthy_bool h))
theorem eq_none_dict {b : Addr} (hb : DictAt s.heap b) (hu : A.units < cLine) : EqAt A s (.none) (.ref b) false := fun prog w E Q h => by
  unfold eqBool
  refine wpAny_holding ?_
  refine wpAny_ite_split (fun hab => absurd (eq_of_beq hab) nofun) (fun _ => ?_)
  exact wpAny_bind (rc_none_dict  hb hu prog w E _ (wpAny_truthy_bool h))
end
theorem dict_eq_declines_bool (b : Addr) (v : Bool) (o : Obj) :
    Meets (Builtin.«dict.__eq__» ⟨[.ref b, .bool v], []⟩) (fun _ R s => s.heap.get? b = some o ∧ o.cls = .type "dict" ∧ R (.ok (.ret .notImplemented)) s) :=
  .of_wp fun prog w A R s h => by obtain ⟨hp, g, d, tk, os⟩ := s; obtain ⟨hb, hc, h⟩ := h; obtain ⟨cls, d2, data, sl2⟩ := o; subst hc; have f1 := F.sub_bool_dict; wp_walk using wpAny_loadPart' hb, wpAny_load hb; exact ⟨_, rfl, h⟩
theorem bool_eq_declines_dict (b : Addr) (v : Bool) (o : Obj) :
    Meets (Builtin.«int.__eq__» ⟨[.bool v, .ref b], []⟩) (fun _ R s => s.heap.get? b = some o ∧ o.cls = .type "dict" ∧ (∃ es n, o.data = .dict es n) ∧ R (.ok (.ret .notImplemented)) s) :=
  .of_wp fun prog w A R s h => by obtain ⟨hp, g, d, tk, os⟩ := s; obtain ⟨hb, hc, ⟨es, n, hd⟩, h⟩ := h; obtain ⟨cls, d2, data, sl2⟩ := o; simp only at hc hd; subst hc hd; wp_walk using wpAny_loadPart' hb, wpAny_load hb; exact ⟨_, rfl, h⟩
section
variable {A : Around} {s : Shared}
theorem rc_dict_bool {b : Addr} (v : Bool) (hb : DictAt s.heap b) (hu : A.units < cLine) : RcAt A s (.ref b) (.bool v) false := fun prog w E Q h => by
  obtain ⟨o2, ho2, hc2, es2, n2, hd2⟩ := id hb
  exact rc_eq_decline_or (k := false) ⟨_, ho2, hc2⟩ rfl (by decide) F.sub_bool_dict F.slot_dict_eq F.slot_bool_eq_refl
    (fun _ hq => call_meets F.slot_dict_eq ⟨_, ho2, hc2⟩ F.entry_dict_eq (F.args_dict_eq_2 _ _) (dict_eq_declines_bool b v o2) ⟨ho2, hc2, hq⟩)
    (fun _ hq => call_meets F.slot_bool_eq_refl rfl F.entry_int_eq (F.args_int_eq_2 _ _) (bool_eq_declines_dict b v o2) ⟨ho2, hc2, ⟨es2, n2, hd2⟩, hq⟩)
    (fun _ hq => wpAny_of_eq (rfl : isSame (.ref b) (.bool v) = pure false) hq) (.inr hu) h
theorem rc_bool_dict {b : Addr} (v : Bool) (hb : DictAt s.heap b) (hu : A.units < cLine) : RcAt A s (.bool v) (.ref b) false := fun prog w E Q h => by
  obtain ⟨o2, ho2, hc2, es2, n2, hd2⟩ := id hb
  exact rc_eq_decline_or (k := false) rfl ⟨_, ho2, hc2⟩ (by decide) F.sub_dict_bool F.slot_bool_eq F.slot_dict_eq_refl
    (fun _ hq => call_meets F.slot_bool_eq rfl F.entry_int_eq (F.args_int_eq_2 _ _) (bool_eq_declines_dict b v o2) ⟨ho2, hc2, ⟨es2, n2, hd2⟩, hq⟩)
    (fun _ hq => call_meets F.slot_dict_eq_refl ⟨_, ho2, hc2⟩ F.entry_dict_eq (F.args_dict_eq_2 _ _) (dict_eq_declines_bool b v o2) ⟨ho2, hc2, hq⟩)
    (fun _ hq => wpAny_of_eq (rfl : isSame (.bool v) (.ref b) = pure false) hq) (.inr hu) h
theorem eq_dict_bool {b : Addr} (v : Bool) (hb : DictAt s.heap b) (hu : A.units < cLine) : EqAt A s (.ref b) (.bool v) false := fun prog w E Q h => by
  unfold eqBool
  refine wpAny_holding ?_
  refine wpAny_ite_split (fun hab => absurd (eq_of_beq hab) nofun) (fun _ => ?_)
  exact wpAny_bind (rc_dict_bool v hb hu prog w E _ (wpAny_truthy_bool h))
theorem eq_bool_dict {b : Addr} (v : Bool) (hb : DictAt s.heap b) (hu : A.units < cLine) : EqAt A s (.bool v) (.ref b) false := fun prog w E Q h => by
  unfold eqBool
  refine wpAny_holding ?_
  refine wpAny_ite_split (fun hab => absurd (eq_of_beq hab) nofun) (fun _ => ?_)
  exact wpAny_bind (rc_bool_dict v hb hu prog w E _ (wpAny_truthy_bool h))
end
theorem dict_eq_declines_int (b : Addr) (v : Int) (u : Tok) (o : Obj) :
    Meets (Builtin.«dict.__eq__» ⟨[.ref b, .int v u], []⟩) (fun _ R s => s.heap.get? b = some o ∧ o.cls = .type "dict" ∧ R (.ok (.ret .notImplemented)) s) :=
  .of_wp fun prog w A R s h => by obtain ⟨hp, g, d, tk, os⟩ := s; obtain ⟨hb, hc, h⟩ := h; obtain ⟨cls, d2, data, sl2⟩ := o; subst hc; have f1 := F.sub_int_dict; wp_walk using wpAny_loadPart' hb, wpAny_load hb; exact ⟨_, rfl, h⟩
theorem int_eq_declines_dict (b : Addr) (v : Int) (u : Tok) (o : Obj) :
    Meets (Builtin.«int.__eq__» ⟨[.int v u, .ref b], []⟩) (fun _ R s => s.heap.get? b = some o ∧ o.cls = .type "dict" ∧ (∃ es n, o.data = .dict es n) ∧ R (.ok (.ret .notImplemented)) s) :=
  .of_wp fun prog w A R s h => by obtain ⟨hp, g, d, tk, os⟩ := s; obtain ⟨hb, hc, ⟨es, n, hd⟩, h⟩ := h; obtain ⟨cls, d2, data, sl2⟩ := o; simp only at hc hd; subst hc hd; wp_walk using wpAny_loadPart' hb, wpAny_load hb; exact ⟨_, rfl, h⟩
section
variable {A : Around} {s : Shared}
theorem rc_dict_int {b : Addr} (v : Int) (u : Tok) (hb : DictAt s.heap b) (hu : A.units < cLine) : RcAt A s (.ref b) (.int v u) false := fun prog w E Q h => by
  obtain ⟨o2, ho2, hc2, es2, n2, hd2⟩ := id hb
  exact rc_eq_decline_or (k := false) ⟨_, ho2, hc2⟩ (typeIs_int s v u) (by decide) F.sub_int_dict F.slot_dict_eq F.slot_int_eq_refl
    (fun _ hq => call_meets F.slot_dict_eq ⟨_, ho2, hc2⟩ F.entry_dict_eq (F.args_dict_eq_2 _ _) (dict_eq_declines_int b v u o2) ⟨ho2, hc2, hq⟩)
    (fun _ hq => call_meets F.slot_int_eq_refl (typeIs_int s v u) F.entry_int_eq (F.args_int_eq_2 _ _) (int_eq_declines_dict b v u o2) ⟨ho2, hc2, ⟨es2, n2, hd2⟩, hq⟩)
    (fun _ hq => wpAny_of_eq (rfl : isSame (.ref b) (.int v u) = pure false) hq) (.inr hu) h
theorem rc_int_dict {b : Addr} (v : Int) (u : Tok) (hb : DictAt s.heap b) (hu : A.units < cLine) : RcAt A s (.int v u) (.ref b) false := fun prog w E Q h => by
  obtain ⟨o2, ho2, hc2, es2, n2, hd2⟩ := id hb
  exact rc_eq_decline_or (k := false) (typeIs_int s v u) ⟨_, ho2, hc2⟩ (by decide) F.sub_dict_int F.slot_int_eq F.slot_dict_eq_refl
    (fun _ hq => call_meets F.slot_int_eq (typeIs_int s v u) F.entry_int_eq (F.args_int_eq_2 _ _) (int_eq_declines_dict b v u o2) ⟨ho2, hc2, ⟨es2, n2, hd2⟩, hq⟩)
    (fun _ hq => call_meets F.slot_dict_eq_refl ⟨_, ho2, hc2⟩ F.entry_dict_eq (F.args_dict_eq_2 _ _) (dict_eq_declines_int b v u o2) ⟨ho2, hc2, hq⟩)
    (fun _ hq => wpAny_of_eq (rfl : isSame (.int v u) (.ref b) = pure false) hq) (.inr hu) h
theorem eq_dict_int {b : Addr} (v : Int) (u : Tok) (hb : DictAt s.heap b) (hu : A.units < cLine) : EqAt A s (.ref b) (.int v u) false := fun prog w E Q h => by
  unfold eqBool
  refine wpAny_holding ?_
  refine wpAny_ite_split (fun hab => absurd (eq_of_beq hab) nofun) (fun _ => ?_)
  exact wpAny_bind (rc_dict_int v u hb hu prog w E _ (wpAny_truthy_bool h))
theorem eq_int_dict {b : Addr} (v : Int) (u : Tok) (hb : DictAt s.heap b) (hu : A.units < cLine) : EqAt A s (.int v u) (.ref b) false := fun prog w E Q h => by
  unfold eqBool
  refine wpAny_holding ?_
  refine wpAny_ite_split (fun hab => absurd (eq_of_beq hab) nofun) (fun _ => ?_)
  exact wpAny_bind (rc_int_dict v u hb hu prog w E _ (wpAny_truthy_bool h))
end
theorem dict_eq_declines_str (b : Addr) (v : Str) (u : Tok) (o : Obj) :
    Meets (Builtin.«dict.__eq__» ⟨[.ref b, .str v u], []⟩) (fun _ R s => s.heap.get? b = some o ∧ o.cls = .type "dict" ∧ R (.ok (.ret .notImplemented)) s) :=
  .of_wp fun prog w A R s h => by obtain ⟨hp, g, d, tk, os⟩ := s; obtain ⟨hb, hc, h⟩ := h; obtain ⟨cls, d2, data, sl2⟩ := o; subst hc; have f1 := F.sub_str_dict; wp_walk using wpAny_loadPart' hb, wpAny_load hb; exact ⟨_, rfl, h⟩
theorem str_eq_declines_dict (b : Addr) (v : Str) (u : Tok) (o : Obj) :
    Meets (Builtin.«str.__eq__» ⟨[.str v u, .ref b], []⟩) (fun _ R s => s.heap.get? b = some o ∧ o.cls = .type "dict" ∧ (∃ es n, o.data = .dict es n) ∧ R (.ok (.ret .notImplemented)) s) :=
  .of_wp fun prog w A R s h => by obtain ⟨hp, g, d, tk, os⟩ := s; obtain ⟨hb, hc, ⟨es, n, hd⟩, h⟩ := h; obtain ⟨cls, d2, data, sl2⟩ := o; simp only at hc hd; subst hc hd; wp_walk using wpAny_loadPart' hb, wpAny_load hb; exact ⟨_, rfl, h⟩
section
variable {A : Around} {s : Shared}
theorem rc_dict_str {b : Addr} (v : Str) (u : Tok) (hb : DictAt s.heap b) (hu : A.units < cLine) : RcAt A s (.ref b) (.str v u) false := fun prog w E Q h => by
  obtain ⟨o2, ho2, hc2, es2, n2, hd2⟩ := id hb
  exact rc_eq_decline_or (k := false) ⟨_, ho2, hc2⟩ (typeIs_str s v u) (by decide) F.sub_str_dict F.slot_dict_eq F.slot_str_eq_refl
    (fun _ hq => call_meets F.slot_dict_eq ⟨_, ho2, hc2⟩ F.entry_dict_eq (F.args_dict_eq_2 _ _) (dict_eq_declines_str b v u o2) ⟨ho2, hc2, hq⟩)
    (fun _ hq => call_meets F.slot_str_eq_refl (typeIs_str s v u) F.entry_str_eq (F.args_str_eq_2 _ _) (str_eq_declines_dict b v u o2) ⟨ho2, hc2, ⟨es2, n2, hd2⟩, hq⟩)
    (fun _ hq => wpAny_of_eq (rfl : isSame (.ref b) (.str v u) = pure false) hq) (.inr hu) h
theorem rc_str_dict {b : Addr} (v : Str) (u : Tok) (hb : DictAt s.heap b) (hu : A.units < cLine) : RcAt A s (.str v u) (.ref b) false := fun prog w E Q h => by
  obtain ⟨o2, ho2, hc2, es2, n2, hd2⟩ := id hb
  exact rc_eq_decline_or (k := false) (typeIs_str s v u) ⟨_, ho2, hc2⟩ (by decide) F.sub_dict_str F.slot_str_eq F.slot_dict_eq_refl
    (fun _ hq => call_meets F.slot_str_eq (typeIs_str s v u) F.entry_str_eq (F.args_str_eq_2 _ _) (str_eq_declines_dict b v u o2) ⟨ho2, hc2, ⟨es2, n2, hd2⟩, hq⟩)
    (fun _ hq => call_meets F.slot_dict_eq_refl ⟨_, ho2, hc2⟩ F.entry_dict_eq (F.args_dict_eq_2 _ _) (dict_eq_declines_str b v u o2) ⟨ho2, hc2, hq⟩)
    (fun _ hq => wpAny_of_eq (rfl : isSame (.str v u) (.ref b) = pure false) hq) (.inr hu) h
theorem eq_dict_str {b : Addr} (v : Str) (u : Tok) (hb : DictAt s.heap b) (hu : A.units < cLine) : EqAt A s (.ref b) (.str v u) false := fun prog w E Q h => by
  unfold eqBool
  refine wpAny_holding ?_
  refine wpAny_ite_split (fun hab => absurd (eq_of_beq hab) nofun) (fun _ => ?_)
  exact wpAny_bind (rc_dict_str v u hb hu prog w E _ (wpAny_truthy_bool h))
theorem eq_str_dict {b : Addr} (v : Str) (u : Tok) (hb : DictAt s.heap b) (hu : A.units < cLine) : EqAt A s (.str v u) (.ref b) false := fun prog w E Q h => by
  unfold eqBool
  refine wpAny_holding ?_
  refine wpAny_ite_split (fun hab => absurd (eq_of_beq hab) nofun) (fun _ => ?_)
  exact wpAny_bind (rc_str_dict v u hb hu prog w E _ (wpAny_truthy_bool h))
end
end WM
set_option maxHeartbeats 1000000
namespace WM
open PySem PySem.Spec PyProof.Rows L2
def seqD : D → Bool
  | .tup _ => true
  | .lst _ => true
  | _ => false
def isDc (S : Store) (k : Nat) : Prop := ∃ t kvs, S[k]? = some (.dct t kvs)
inductive EqX (S : Store) : Nat → D → D → Bool → Prop
  | pl {n : Nat} {x y : D} : plain n x = true → plain n y = true → EqX S n x y (eqv x y)
  | same {n k : Nat} : EqX S n (.cell k) (.cell k) true
  | cl {n k : Nat} {xs ys : List D} : S[k]? = some (.lst xs) → plain n (.lst xs) = true → plain n (.lst ys) = true → EqX S n (.cell k) (.lst ys) (eqv (.lst xs) (.lst ys))
  | dl {n k : Nat} {y : D} : isDc S k → (scal4 y || seqD y) = true → EqX S n (.cell k) y false
  | dr {n k : Nat} {x : D} : isDc S k → (scal4 x || seqD x) = true → EqX S n x (.cell k) false
  | tt {n : Nat} {xs ys : List D} (f : Nat → Bool) : (∀ j d e, xs[j]? = some d → ys[j]? = some e → EqX S n d e (f j)) → EqX S (n + 1) (.tup xs) (.tup ys) ((List.range (min xs.length ys.length)).all f && xs.length == ys.length)
  | ll {n : Nat} {xs ys : List D} (f : Nat → Bool) : xs.length = ys.length → (∀ j d e, xs[j]? = some d → ys[j]? = some e → EqX S n d e (f j)) → EqX S (n + 1) (.lst xs) (.lst ys) ((List.range xs.length).all f)
  | ln {n : Nat} {xs ys : List D} : xs.length ≠ ys.length → EqX S n (.lst xs) (.lst ys) false
  | tl {n : Nat} {xs ys : List D} : EqX S n (.tup xs) (.lst ys) false
  | lt {n : Nat} {xs ys : List D} : EqX S n (.lst xs) (.tup ys) false
  | sq {n : Nat} {x y : D} : scal4 x = true → seqD y = true → EqX S n x y false
  | qs {n : Nat} {x y : D} : seqD x = true → scal4 y = true → EqX S n x y false
  | kk {n : Nat} : EqX S n (.dct false []) (.dct false []) true
  | kl {n : Nat} {t : Bool} {kvs : List (D × D)} {y : D} : (scal4 y || seqD y) = true → EqX S n (.dct t kvs) y false
  | kr {n : Nat} {t : Bool} {kvs : List (D × D)} {x : D} : (scal4 x || seqD x) = true → EqX S n x (.dct t kvs) false
section
variable {K : PySem.W.Frag} {B : Bs} {F : Hp} {ρ : List Addr} {S : Store} {H : Hp}
variable {X : Cx} {pins : List (Addr × Obj)} {σ : L2.St} {s : Shared}
theorem dict_cell (R : Rel K B S F ρ H) {k : Nat} {v : V} (h : isDc S k) (r : Rep K F ρ v (.cell k)) : ∃ a, v = .ref a ∧ ((∃ ps, H a = some (.dK ps)) ∨ ∃ ps, H a = some (.dT ps)) := by
  obtain ⟨a, h1, rfl⟩ := r
  obtain ⟨t, kvs, h2⟩ := h
  have := R.cell k a _ h1 h2
  cases t with
  | false => obtain ⟨ps, h3, _⟩ := this; exact ⟨a, rfl, .inl ⟨ps, h3⟩⟩
  | true => obtain ⟨ps, h3, _⟩ := this; exact ⟨a, rfl, .inr ⟨ps, h3⟩⟩
theorem dictAt (I : Inv X pins σ H s) {a : Addr} (h : (∃ ps, H a = some (.dK ps)) ∨ ∃ ps, H a = some (.dT ps)) : DictAt s.heap a := by
  rcases h with ⟨ps, h⟩ | ⟨ps, h⟩
  · obtain ⟨_, _, vs, _, o, es, ep, h1, h2, h3, _⟩ := dk_rd I.hok (.inl h)
    exact ⟨o, h1, h2.1, es, ep, h3⟩
  · obtain ⟨_, _, vs, _, o, es, ep, h1, h2, h3, _⟩ := dt_rd I.hok (.inl h)
    exact ⟨o, h1, h2.1, es, ep, h3⟩
theorem dict_nil {P P' : PySem.Program} {w w' : PySem.World} {h : Heap} {a : Addr} (d : h.DictOf (mixKind P w) a []) : h.DictOf (mixKind P' w') a [] := by
  obtain ⟨o, es, ep, h1, h2, h3, _, h5, _⟩ := d
  generalize hl : es.toList = l at h5
  cases h5
  have e : es = #[] := by simpa using hl
  subst e
  exact ⟨o, _, ep, h1, h2, h3, fun e he => by simp at he, .nil, List.nodup_nil⟩
theorem dict_dat (R : Rel K B S F ρ H) {t : Bool} {kvs : List (D × D)} {v : V} (r : Rep K F ρ v (.dct t kvs)) : ∃ a, v = .ref a ∧ ((∃ ps, Rd H a (.dK ps)) ∨ ∃ ps, Rd H a (.dT ps)) := by
  cases t with
  | false => obtain ⟨a, ps, rfl, h, _⟩ := r; exact ⟨a, rfl, .inl ⟨ps, R.le.rd h⟩⟩
  | true => obtain ⟨a, ps, rfl, h, _⟩ := r; exact ⟨a, rfl, .inr ⟨ps, R.le.rd h⟩⟩
theorem dictAtR (I : Inv X pins σ H s) {a : Addr} (h : (∃ ps, Rd H a (.dK ps)) ∨ ∃ ps, Rd H a (.dT ps)) : DictAt s.heap a := by
  rcases h with ⟨ps, h⟩ | ⟨ps, h⟩
  · obtain ⟨_, _, vs, _, o, es, ep, h1, h2, h3, _⟩ := dk_rd I.hok h
    exact ⟨o, h1, h2.1, es, ep, h3⟩
  · obtain ⟨_, _, vs, _, o, es, ep, h1, h2, h3, _⟩ := dt_rd I.hok h
    exact ⟨o, h1, h2.1, es, ep, h3⟩
theorem sc_noref {x : D} {a : Addr} (p : scal4 x = true) (r : Rep K F ρ (.ref a) x) : False := by
  cases x with
  | non => cases (show V.ref a = _ from r)
  | bl _ => cases (show V.ref a = _ from r)
  | int _ => cases (show V.ref a = _ from r)
  | str _ => cases (show V.ref a = _ from r)
  | _ => cases p
theorem rep_cellL (R : Rel K B S F ρ H) {k n : Nat} {xs : List D} {v : V} (e : S[k]? = some (.lst xs)) (p : plain n (.lst xs) = true) (r : Rep K F ρ v (.cell k)) : Rep K H ρ v (.lst xs) := by
  obtain ⟨a, h1, rfl⟩ := r
  obtain ⟨vs, h2, h3⟩ := R.cell k a _ h1 e
  cases n with
  | zero => simp [plain] at p
  | succ n => exact ⟨a, vs, rfl, h2, repL_heap R.le (by simpa [plain] using p) h3⟩
/-- what stands for two things at once: they are equal -/
theorem eqX_same (R : Rel K B S F ρ H) {n : Nat} {x y : D} {b : Bool} (h : EqX S n x y b) : ∀ v : V, Rep K F ρ v x → Rep K F ρ v y → b = true := by
  have noD : ∀ {k : Nat} {z : D} {v : V}, isDc S k → (scal4 z || seqD z) = true → Rep K F ρ v (.cell k) → Rep K F ρ v z → False := by
    intro k z v hk hz r1 r2
    obtain ⟨a, rfl, hd⟩ := dict_cell R hk r1
    rw [Bool.or_eq_true] at hz
    rcases hz with hz | hz
    · exact sc_noref hz r2
    · cases z with
      | tup ds =>
        obtain ⟨b, vs, e, h2, _⟩ := r2
        cases e
        have := R.le.ex h2 rfl
        rcases hd with ⟨ps, hd⟩ | ⟨ps, hd⟩ <;> (rw [hd] at this; cases this)
      | lst ds =>
        obtain ⟨b, vs, e, h2, _⟩ := r2
        cases e
        have := R.le.ex h2 rfl
        rcases hd with ⟨ps, hd⟩ | ⟨ps, hd⟩ <;> (rw [hd] at this; cases this)
      | _ => cases hz
  have noK : ∀ {t : Bool} {kvs : List (D × D)} {z : D} {v : V}, (scal4 z || seqD z) = true → Rep K F ρ v (.dct t kvs) → Rep K F ρ v z → False := by
    intro t kvs z v hz r1 r2
    obtain ⟨a, rfl, hd⟩ := dict_dat R r1
    rw [Bool.or_eq_true] at hz
    rcases hz with hz | hz
    · exact sc_noref hz r2
    · cases z with
      | tup ds =>
        obtain ⟨b, vs, e, h2, _⟩ := r2
        cases e
        have := R.le.ex h2 rfl
        rcases hd with ⟨ps, hd | ⟨o, hd⟩⟩ | ⟨ps, hd | ⟨o, hd⟩⟩ <;> (rw [hd] at this; cases this)
      | lst ds =>
        obtain ⟨b, vs, e, h2, _⟩ := r2
        cases e
        have := R.le.ex h2 rfl
        rcases hd with ⟨ps, hd | ⟨o, hd⟩⟩ | ⟨ps, hd | ⟨o, hd⟩⟩ <;> (rw [hd] at this; cases this)
      | _ => cases hz
  induction h with
  | kk => intro _ _ _; rfl
  | kl hy => intro v r1 r2; exact (noK hy r1 r2).elim
  | kr hx => intro v r1 r2; exact (noK hx r2 r1).elim
  | pl p q =>
    intro v r1 r2
    have := rep_uniq p q (rep_heap R.le p r1) (rep_heap R.le q r2)
    subst this
    exact eqv_refl p
  | same => intro _ _ _; rfl
  | cl e p q =>
    intro v r1 r2
    have := rep_uniq p q (rep_cellL R e p r1) (rep_heap R.le q r2)
    rw [← this]
    exact eqv_refl p
  | dl hk hy => intro v r1 r2; exact (noD hk hy r1 r2).elim
  | dr hk hx => intro v r1 r2; exact (noD hk hx r2 r1).elim
  | @tt n xs ys f hf ih =>
    rintro v ⟨a, vs, rfl, h1, h2⟩ ⟨b, us, e, g1, g2⟩
    cases e
    rw [h1] at g1; cases g1
    have l1 := h2.length
    have l2 := g2.length
    rw [Bool.and_eq_true, List.all_eq_true]
    refine ⟨fun j hj => ?_, by rw [beq_iff_eq]; omega⟩
    rw [List.mem_range] at hj
    obtain ⟨d, hd⟩ : ∃ d, xs[j]? = some d := ⟨_, List.getElem?_eq_getElem (show j < _ by exact Nat.lt_of_lt_of_le hj (Nat.min_le_left _ _))⟩
    obtain ⟨e, he⟩ : ∃ d, ys[j]? = some d := ⟨_, List.getElem?_eq_getElem (show j < _ by exact Nat.lt_of_lt_of_le hj (Nat.min_le_right _ _))⟩
    obtain ⟨z, w, e1, e2, r1⟩ := (repl_get j h2).resolve_left (fun z => by rw [hd] at z; cases z.2)
    obtain ⟨z2, w2, e3, e4, r2⟩ := (repl_get j g2).resolve_left (fun z => by rw [he] at z; cases z.2)
    rw [e1] at e3; cases e3
    exact ih j _ _ e2 e4 _ r1 r2
  | @ll n xs ys f hl hf ih =>
    rintro v ⟨a, vs, rfl, h1, h2⟩ ⟨b, us, e, g1, g2⟩
    cases e
    rw [h1] at g1; cases g1
    rw [List.all_eq_true]
    intro j hj
    rw [List.mem_range] at hj
    obtain ⟨d, hd⟩ : ∃ d, xs[j]? = some d := ⟨_, List.getElem?_eq_getElem hj⟩
    obtain ⟨e, he⟩ : ∃ d, ys[j]? = some d := ⟨_, List.getElem?_eq_getElem (hl ▸ hj)⟩
    obtain ⟨z, w, e1, e2, r1⟩ := (repl_get j h2).resolve_left (fun z => by rw [hd] at z; cases z.2)
    obtain ⟨z2, w2, e3, e4, r2⟩ := (repl_get j g2).resolve_left (fun z => by rw [he] at z; cases z.2)
    rw [e1] at e3; cases e3
    exact ih j _ _ e2 e4 _ r1 r2
  | ln hl =>
    rintro v ⟨a, vs, rfl, h1, h2⟩ ⟨b, us, e, g1, g2⟩
    cases e
    rw [h1] at g1; cases g1
    exact (hl (by rw [← h2.length, ← g2.length])).elim
  | tl =>
    rintro v ⟨a, vs, rfl, h1, h2⟩ ⟨b, us, e, g1, g2⟩
    cases e
    rw [h1] at g1; cases g1
  | lt =>
    rintro v ⟨a, vs, rfl, h1, h2⟩ ⟨b, us, e, g1, g2⟩
    cases e
    rw [h1] at g1; cases g1
  | @sq n x y p q =>
    intro v r1 r2
    cases y with
    | tup ds => obtain ⟨a, vs, rfl, _⟩ := r2; exact (sc_noref p r1).elim
    | lst ds => obtain ⟨a, vs, rfl, _⟩ := r2; exact (sc_noref p r1).elim
    | _ => cases q
  | @qs n x y p q =>
    intro v r1 r2
    cases x with
    | tup ds => obtain ⟨a, vs, rfl, _⟩ := r1; exact (sc_noref q r2).elim
    | lst ds => obtain ⟨a, vs, rfl, _⟩ := r1; exact (sc_noref q r2).elim
    | _ => cases p
/-- the items of two rows -/
theorem seqsX (R : Rel K B S F ρ H) {xs ys : List D} {vs us : List V} {its its2 : List Value} {f : Nat → Bool} {A : Around} (h : ∀ j d e, xs[j]? = some d → ys[j]? = some e → ∀ v u v' u', Rep K F ρ v d → Rep K F ρ u e → RelV v v' → RelV u u' → SeqAt.EqAt A s v' u' (f j))
    (rd : RepL K F ρ vs xs) (re : RepL K F ρ us ys) (r : Vals vs its) (r' : Vals us its2) : ∀ j (h1 : j < its.toArray.size) (h2 : j < its2.toArray.size), SeqAt.EqAt A s its.toArray[j] its2.toArray[j] (f j) := by
  intro j h1 h2
  have e1 : its[j]? = some its.toArray[j] := by simp at h1; simp [h1]
  have e2 : its2[j]? = some its2.toArray[j] := by simp at h2; simp [h2]
  obtain ⟨v1, q1, w1⟩ := vals_at r e1
  obtain ⟨v2, q2, w2⟩ := vals_at r' e2
  obtain ⟨d, g1, z1⟩ := rd.getV q1
  obtain ⟨e, g2, z2⟩ := re.getV q2
  exact h j d e g1 g2 v1 v2 _ _ z1 z2 w1 w2
theorem eqX_at (R : Rel K B S F ρ H) (I : Inv X pins σ H s) {n : Nat} {x y : D} {b : Bool} (h : EqX S n x y b) : ∀ (v u : V) (v' u' : Value) (A : Around), Rep K F ρ v x → Rep K F ρ u y → RelV v v' → RelV u u' → A.units + n < cLine → SeqAt.EqAt A s v' u' b := by
  have odd : ∀ {k : Nat} {z : D} {v u : V} {v' u' : Value} {A : Around}, isDc S k → (scal4 z || seqD z) = true → Rep K F ρ v (.cell k) → Rep K F ρ u z → RelV v v' → RelV u u' → A.units < cLine → SeqAt.EqAt A s v' u' false ∧ SeqAt.EqAt A s u' v' false := by
    intro k z v u v' u' A hk hz r1 r2 hv hu hA
    obtain ⟨a, rfl, hd⟩ := dict_cell R hk r1
    have hd := dictAt I hd
    cases hv
    cases z with
    | non => rw [show u = .non from r2] at hu; cases hu; exact ⟨eq_dict_none hd hA, eq_none_dict hd hA⟩
    | bl b => rw [show u = .bl b from r2] at hu; cases hu; exact ⟨eq_dict_bool _ hd hA, eq_bool_dict _ hd hA⟩
    | int b => rw [show u = .int b from r2] at hu; obtain ⟨t, rfl⟩ := hu; exact ⟨eq_dict_int _ _ hd hA, eq_int_dict _ _ hd hA⟩
    | str b => rw [show u = .str b from r2] at hu; obtain ⟨t, rfl⟩ := hu; exact ⟨eq_dict_str _ _ hd hA, eq_str_dict _ _ hd hA⟩
    | tup ds =>
      obtain ⟨b, us, rfl, hb, re⟩ := r2
      cases hu
      obtain ⟨its2, r', pl', _⟩ := I.tuple (SqT.of (R.le.ex hb rfl))
      exact ⟨eq_dict_tuple pl' hd hA, eq_tuple_dict pl' hd hA⟩
    | lst ds =>
      obtain ⟨b, us, rfl, hb, re⟩ := r2
      cases hu
      obtain ⟨its2, r', pl', _⟩ := I.list (SqL.of (R.le.ex hb rfl))
      exact ⟨eq_dict_list pl'.isList hd hA, eq_list_dict pl'.isList hd hA⟩
    | _ => cases hz
  have oddK : ∀ {t : Bool} {kvs : List (D × D)} {z : D} {v u : V} {v' u' : Value} {A : Around}, (scal4 z || seqD z) = true → Rep K F ρ v (.dct t kvs) → Rep K F ρ u z → RelV v v' → RelV u u' → A.units < cLine → SeqAt.EqAt A s v' u' false ∧ SeqAt.EqAt A s u' v' false := by
    intro t kvs z v u v' u' A hz r1 r2 hv hu hA
    obtain ⟨a, rfl, hd⟩ := dict_dat R r1
    have hd := dictAtR I hd
    cases hv
    cases z with
    | non => rw [show u = .non from r2] at hu; cases hu; exact ⟨eq_dict_none hd hA, eq_none_dict hd hA⟩
    | bl b => rw [show u = .bl b from r2] at hu; cases hu; exact ⟨eq_dict_bool _ hd hA, eq_bool_dict _ hd hA⟩
    | int b => rw [show u = .int b from r2] at hu; obtain ⟨t, rfl⟩ := hu; exact ⟨eq_dict_int _ _ hd hA, eq_int_dict _ _ hd hA⟩
    | str b => rw [show u = .str b from r2] at hu; obtain ⟨t, rfl⟩ := hu; exact ⟨eq_dict_str _ _ hd hA, eq_str_dict _ _ hd hA⟩
    | tup ds =>
      obtain ⟨b, us, rfl, hb, re⟩ := r2
      cases hu
      obtain ⟨its2, r', pl', _⟩ := I.tuple (SqT.of (R.le.ex hb rfl))
      exact ⟨eq_dict_tuple pl' hd hA, eq_tuple_dict pl' hd hA⟩
    | lst ds =>
      obtain ⟨b, us, rfl, hb, re⟩ := r2
      cases hu
      obtain ⟨its2, r', pl', _⟩ := I.list (SqL.of (R.le.ex hb rfl))
      exact ⟨eq_dict_list pl'.isList hd hA, eq_list_dict pl'.isList hd hA⟩
    | _ => cases hz
  induction h with
  | kk =>
    intro v u v' u' A rx ry hv hu hA
    obtain ⟨a, ps, rfl, ha, hp⟩ := rx
    obtain ⟨b, us, rfl, hb, hq⟩ := ry
    cases hv; cases hu
    by_cases e : a = b
    · subst e; exact SeqAt.EqAt.same _
    · obtain ⟨_, na, ka, kva, da⟩ := dk_rd I.hok (R.le.rd ha)
      obtain ⟨_, nb, kb, kvb, db⟩ := dk_rd I.hok (R.le.rd hb)
      have la : ka.length = 0 := by have h1 := Paired.length kva; have h2 := repK_len hp; rw [List.length_nil] at h2; omega
      have lb : kb.length = 0 := by have h1 := Paired.length kvb; have h2 := repK_len hq; rw [List.length_nil] at h2; omega
      have ea := List.length_eq_zero_iff.mp la
      have eb := List.length_eq_zero_iff.mp lb
      subst ea; subst eb
      refine SeqAt.EqAt.of_refs e fun prog w E Q hq => ?_
      exact PySem.W.keq_eq (r := true) (knd := mixKind prog w) (ka := []) (kb := []) na nb (dict_nil da) (dict_nil db) (by omega) (fun _ => .nil) hq
  | kl hy => intro v u v' u' A rx ry hv hu hA; exact (oddK hy rx ry hv hu (by omega)).1
  | kr hx => intro v u v' u' A rx ry hv hu hA; exact (oddK hx ry rx hu hv (by omega)).2
  | pl p q => intro v u v' u' A rx ry hv hu hA; exact eq_at I _ _ _ v u v' u' A p q (rep_heap R.le p rx) (rep_heap R.le q ry) hv hu hA
  | same =>
    rintro v u v' u' A ⟨a, h1, rfl⟩ ⟨b, h2, rfl⟩ hv hu hA
    rw [h1] at h2; cases h2
    cases hv; cases hu
    exact SeqAt.EqAt.same _
  | cl e p q => intro v u v' u' A rx ry hv hu hA; exact eq_at I _ _ _ v u v' u' A p q (rep_cellL R e p rx) (rep_heap R.le q ry) hv hu hA
  | dl hk hy => intro v u v' u' A rx ry hv hu hA; exact (odd hk hy rx ry hv hu (by omega)).1
  | dr hk hx => intro v u v' u' A rx ry hv hu hA; exact (odd hk hx ry rx hu hv (by omega)).2
  | @tt n xs ys f hf ih =>
    intro v u v' u' A rx ry hv hu hA
    have hA0 : A.units < cLine := by omega
    have rx0 := rx
    obtain ⟨a, vs, rfl, ha, rd⟩ := rx
    obtain ⟨b, us, rfl, hb, re⟩ := ry
    cases hv; cases hu
    obtain ⟨its, r, pl, _⟩ := I.tuple (SqT.of (R.le.ex ha rfl))
    obtain ⟨its2, r', pl', _⟩ := I.tuple (SqT.of (R.le.ex hb rfl))
    by_cases e : a = b
    · subst e
      rw [eqX_same R (.tt f hf) _ ⟨a, vs, rfl, ha, rd⟩ ⟨a, us, rfl, hb, re⟩]
      exact SeqAt.EqAt.same _
    · refine SeqAt.EqAt.of_refs e ?_
      have := SeqAt.RcAt.tuples pl pl' (A := A) hA0 (seqsX R (A := A.in1) (fun j d e h1 h2 v u v' u' a1 a2 a3 a4 => ih j d e h1 h2 v u v' u' A.in1 a1 a2 a3 a4 (by show A.units + 1 + n < cLine; omega)) rd re r r')
      rw [List.size_toArray, List.size_toArray, ← r.length, ← r'.length, rd.length, re.length] at this
      exact this
  | @ll n xs ys f hl hf ih =>
    intro v u v' u' A rx ry hv hu hA
    have hA0 : A.units < cLine := by omega
    obtain ⟨a, vs, rfl, ha, rd⟩ := rx
    obtain ⟨b, us, rfl, hb, re⟩ := ry
    cases hv; cases hu
    obtain ⟨its, r, pl, _⟩ := I.list (SqL.of (R.le.ex ha rfl))
    obtain ⟨its2, r', pl', _⟩ := I.list (SqL.of (R.le.ex hb rfl))
    have l1 : its.toArray.size = xs.length := by rw [List.size_toArray, ← r.length, rd.length]
    have l2 : its2.toArray.size = ys.length := by rw [List.size_toArray, ← r'.length, re.length]
    by_cases e : a = b
    · subst e
      rw [eqX_same R (.ll f hl hf) _ ⟨a, vs, rfl, ha, rd⟩ ⟨a, us, rfl, hb, re⟩]
      exact SeqAt.EqAt.same _
    · refine SeqAt.EqAt.of_refs e ?_
      have := SeqAt.RcAt.lists pl.isList pl'.isList (A := A) (by rw [l1, l2, hl]) hA0 (seqsX R (A := A.in1) (fun j d e h1 h2 v u v' u' a1 a2 a3 a4 => ih j d e h1 h2 v u v' u' A.in1 a1 a2 a3 a4 (by show A.units + 1 + n < cLine; omega)) rd re r r')
      rw [l1] at this
      exact this
  | ln hl =>
    intro v u v' u' A rx ry hv hu hA
    have hA0 : A.units < cLine := by omega
    obtain ⟨a, vs, rfl, ha, rd⟩ := rx
    obtain ⟨b, us, rfl, hb, re⟩ := ry
    cases hv; cases hu
    obtain ⟨its, r, pl, _⟩ := I.list (SqL.of (R.le.ex ha rfl))
    obtain ⟨its2, r', pl', _⟩ := I.list (SqL.of (R.le.ex hb rfl))
    have hne : a ≠ b := fun e => by
      subst e
      rw [ha] at hb; cases hb
      exact hl (by rw [← rd.length, ← re.length])
    refine SeqAt.EqAt.of_refs hne (SeqAt.RcAt.lists_lengths (A := A) pl.isList pl'.isList ?_ hA0)
    rw [List.size_toArray, List.size_toArray, ← r.length, ← r'.length, rd.length, re.length]
    simpa using hl
  | tl =>
    intro v u v' u' A rx ry hv hu hA
    obtain ⟨a, vs, rfl, ha, rd⟩ := rx
    obtain ⟨b, us, rfl, hb, re⟩ := ry
    cases hv; cases hu
    obtain ⟨its, r, pl, _⟩ := I.tuple (SqT.of (R.le.ex ha rfl))
    obtain ⟨its2, r', pl', _⟩ := I.list (SqL.of (R.le.ex hb rfl))
    exact SeqAt.EqAt.tuple_list pl pl'.isList (by omega)
  | lt =>
    intro v u v' u' A rx ry hv hu hA
    obtain ⟨a, vs, rfl, ha, rd⟩ := rx
    obtain ⟨b, us, rfl, hb, re⟩ := ry
    cases hv; cases hu
    obtain ⟨its, r, pl, _⟩ := I.list (SqL.of (R.le.ex ha rfl))
    obtain ⟨its2, r', pl', _⟩ := I.tuple (SqT.of (R.le.ex hb rfl))
    exact SeqAt.EqAt.list_tuple pl.isList pl' (by omega)
  | @sq n x y p q =>
    intro v u v' u' A rx ry hv hu hA
    cases y with
    | tup ds =>
      obtain ⟨b, us, rfl, hb, re⟩ := ry
      cases hu
      obtain ⟨its2, r', pl', _⟩ := I.tuple (SqT.of (R.le.ex hb rfl))
      have := (eq_st (K := K) (H := F) (ρ := ρ) (es := ds) p rx hv pl' (A := A) (by omega)).1
      cases x <;> first | exact this | cases p
    | lst ds =>
      obtain ⟨b, us, rfl, hb, re⟩ := ry
      cases hu
      obtain ⟨its2, r', pl', _⟩ := I.list (SqL.of (R.le.ex hb rfl))
      have := (eq_sl (K := K) (H := F) (ρ := ρ) (es := ds) p rx hv pl'.isList (A := A) (by omega)).1
      cases x <;> first | exact this | cases p
    | _ => cases q
  | @qs n x y p q =>
    intro v u v' u' A rx ry hv hu hA
    cases x with
    | tup ds =>
      obtain ⟨b, us, rfl, hb, re⟩ := rx
      cases hv
      obtain ⟨its2, r', pl', _⟩ := I.tuple (SqT.of (R.le.ex hb rfl))
      have := (eq_st (K := K) (H := F) (ρ := ρ) (es := ds) q ry hu pl' (A := A) (by omega)).2
      cases y <;> first | exact this | cases q
    | lst ds =>
      obtain ⟨b, us, rfl, hb, re⟩ := rx
      cases hv
      obtain ⟨its2, r', pl', _⟩ := I.list (SqL.of (R.le.ex hb rfl))
      have := (eq_sl (K := K) (H := F) (ρ := ρ) (es := ds) q ry hu pl'.isList (A := A) (by omega)).2
      cases y <;> first | exact this | cases q
    | _ => cases p
end
end WM
set_option maxHeartbeats 1000000
namespace WM
open PySem PySem.Spec PyProof.Rows L2
/-- == of lists or tuples, at the top -/
def TopX (S : Store) (x y : D) (b : Bool) : Prop := EqX S 8 (deref S x) (deref S y) b ∧ (seqD (deref S x) && seqD (deref S y)) = true
def rCX (K : PySem.W.Frag) (B : Bs) (f : Store → D → D → Bool → Prop) : R2 := fun v u H Q => ∃ S F ρ x y b, Rel K B S F ρ H ∧ Rep K F ρ v x ∧ Rep K F ρ u y ∧ f S x y b ∧ Q (.bl b) H
section
variable {X : Cx} {B : Bs} {pins : List (Addr × Obj)} {σ : L2.St} {H F : Hp} {s : Shared} {S : Store} {ρ : List Addr} {x y : D} {v u : V} {v' u' : Value} {b : Bool}
theorem topX_ok (hA : X.A.units + 9 < cLine) (I : Inv X pins σ H s) (R : Rel X.K B S F ρ H) (rx : Rep X.K F ρ v x) (ry : Rep X.K F ρ u y) (hv : RelV v v') (hu : RelV u u') (h : TopX S x y b) :
    SeqAt.RcAt X.A s v' u' b ∧ SeqAt.RcNeAt X.A s v' u' (!b) := by
  obtain ⟨h, ht⟩ := h
  have hA0 : X.A.units < cLine := by omega
  have item : ∀ {n : Nat} {xs ys : List D} {f : Nat → Bool}, n + 1 = 8 → (∀ j d e, xs[j]? = some d → ys[j]? = some e → EqX S n d e (f j)) → ∀ j d e, xs[j]? = some d → ys[j]? = some e → ∀ v u v' u', Rep X.K F ρ v d → Rep X.K F ρ u e → RelV v v' → RelV u u' → SeqAt.EqAt X.A.in1 s v' u' (f j) :=
    fun hn hf j d e h1 h2 v u v' u' a1 a2 a3 a4 => eqX_at R I (hf j d e h1 h2) v u v' u' X.A.in1 a1 a2 a3 a4 (by show X.A.units + 1 + _ < cLine; omega)
  generalize hX : deref S x = dx at h ht
  generalize hY : deref S y = dy at h ht
  generalize hn : (8 : Nat) = n at h
  cases h with
  | pl p q =>
    subst hn; subst hX; subst hY
    exact rc_at I p q (rep_deref R rx p) (rep_deref R ry q) hv hu (by omega)
  | same => cases ht
  | cl _ _ _ => cases ht
  | dl _ _ => cases ht
  | dr _ _ => rw [show seqD (.cell _) = false from rfl, Bool.and_false] at ht; cases ht
  | tt f hf =>
    obtain ⟨a, vs, rfl, ha, rd⟩ := rep_tup R rx hX
    obtain ⟨b, us, rfl, hb, re⟩ := rep_tup R ry hY
    cases hv; cases hu
    obtain ⟨its, r, pl, _⟩ := I.tuple (SqT.of ha)
    obtain ⟨its2, r', pl', _⟩ := I.tuple (SqT.of hb)
    have t1 := SeqAt.RcAt.tuples pl pl' (A := X.A) hA0 (seqsX R (item hn.symm hf) rd re r r')
    have t2 := SeqAt.RcNeAt.tuples pl pl' (A := X.A) hA0 (seqsX R (item hn.symm hf) rd re r r')
    rw [List.size_toArray, List.size_toArray, ← r.length, ← r'.length, rd.length, re.length] at t1 t2
    exact ⟨t1, t2⟩
  | @ll n xs ys f hl hf =>
    obtain ⟨a, vs, rfl, ha, rd⟩ := rep_lst R rx hX
    obtain ⟨b, us, rfl, hb, re⟩ := rep_lst R ry hY
    cases hv; cases hu
    obtain ⟨its, r, pl, _⟩ := I.list (SqL.of ha)
    obtain ⟨its2, r', pl', _⟩ := I.list (SqL.of hb)
    have l1 : its.toArray.size = xs.length := by rw [List.size_toArray, ← r.length, rd.length]
    have l2 : its2.toArray.size = ys.length := by rw [List.size_toArray, ← r'.length, re.length]
    have t1 := SeqAt.RcAt.lists pl.isList pl'.isList (A := X.A) (by rw [l1, l2, hl]) hA0 (seqsX R (item hn.symm hf) rd re r r')
    have t2 := SeqAt.RcNeAt.lists pl.isList pl'.isList (A := X.A) (by rw [l1, l2, hl]) hA0 (seqsX R (item hn.symm hf) rd re r r')
    rw [l1] at t1 t2
    exact ⟨t1, t2⟩
  | ln hl =>
    obtain ⟨a, vs, rfl, ha, rd⟩ := rep_lst R rx hX
    obtain ⟨b, us, rfl, hb, re⟩ := rep_lst R ry hY
    cases hv; cases hu
    obtain ⟨its, r, pl, _⟩ := I.list (SqL.of ha)
    obtain ⟨its2, r', pl', _⟩ := I.list (SqL.of hb)
    have hs : (its.toArray.size == its2.toArray.size) = false := by
      rw [List.size_toArray, List.size_toArray, ← r.length, ← r'.length, rd.length, re.length]; simpa using hl
    exact ⟨SeqAt.RcAt.lists_lengths (A := X.A) pl.isList pl'.isList (by simpa using hs) hA0, SeqAt.RcNeAt.lists_lengths (A := X.A) pl.isList pl'.isList (by simpa using hs) hA0⟩
  | tl =>
    obtain ⟨a, vs, rfl, ha, rd⟩ := rep_tup R rx hX
    obtain ⟨b, us, rfl, hb, re⟩ := rep_lst R ry hY
    cases hv; cases hu
    obtain ⟨its, r, pl, _⟩ := I.tuple (SqT.of ha)
    obtain ⟨its2, r', pl', _⟩ := I.list (SqL.of hb)
    exact ⟨SeqAt.RcAt.tuple_list pl pl'.isList hA0, SeqAt.RcNeAt.tuple_list pl pl'.isList hA0⟩
  | lt =>
    obtain ⟨a, vs, rfl, ha, rd⟩ := rep_lst R rx hX
    obtain ⟨b, us, rfl, hb, re⟩ := rep_tup R ry hY
    cases hv; cases hu
    obtain ⟨its, r, pl, _⟩ := I.list (SqL.of ha)
    obtain ⟨its2, r', pl', _⟩ := I.tuple (SqT.of hb)
    exact ⟨SeqAt.RcAt.list_tuple pl.isList pl' hA0, SeqAt.RcNeAt.list_tuple pl.isList pl' hA0⟩
  | kk => rw [show seqD (.dct _ _) = false from rfl] at ht; cases ht
  | kl _ => rw [show seqD (.dct _ _) = false from rfl] at ht; cases ht
  | kr _ => rw [show seqD (.dct _ _) = false from rfl, Bool.and_false] at ht; cases ht
  | sq p q => exfalso; revert ht p; cases dx <;> simp [seqD, scal4]
  | qs p q => exfalso; revert ht q; cases dy <;> simp [seqD, scal4]
end
section
variable {X : Cx} {B : Bs}
theorem c_eqX (hA : X.A.units + 9 < cLine) : OpR X (compareOp .Eq) (rCX X.K B TopX) := by
  intro pins s σ H v u v' u' Q I rv ru ⟨S, F, ρ, x, y, b, R, rx, ry, e, q⟩
  exact (topX_ok hA I R rx ry rv ru e).1 X.prog X.w X.xe _ ⟨.bl _, H, I, rfl, q⟩
end
def wCmX (f : Store → D → D → Bool → Prop) (a b : WE) : WT := fun σ S Q X => a σ S (fun x S1 => b σ S1 (fun y S2 => ∃ k, f S2 x y k ∧ Q k S2) X) X
section
variable {X : Cx} {xi : Xi} {B : Bs} {W : WX}
theorem t_cmX {f : Store → D → D → Bool → Prop} {op : CmpOp} {a b : Expr} {pos} {wa wb : WE} (ho : OpR X (compareOp op) (rCX X.K B f)) (ha : PE X a (tE X.K xi B W wa)) (hb : PE X b (tE X.K xi B W wb)) (hm : behindInMarks op b = false) :
    PT X (.Compare a [op] [b] pos) (tT X.K xi B W (wCmX f wa wb)) :=
  (pt_cmpR ho ha hb hm).weak fun σ H Q ⟨env, S, F, ρ, Qn, Qx, R, E, h2, P, PX⟩ => ⟨env, S, F, ρ, _, Qx, R, E, h2, fun x S1 v H1 F1 ρ1 q1 R1 e1 r1 =>
    ⟨env, S1, F1, ρ1, _, Qx, R1, E.mono e1, q1, fun y S2 u H2 F2 ρ2 ⟨k, q2, q3⟩ R2 e2 r2 => ⟨S2, F2, ρ2, x, y, k, R2, r1.mono e2, r2, q2, k, rfl, P _ _ _ _ _ q3 R2 (e1.trans e2)⟩, PX.ext e1⟩, PX⟩
end
end WM
set_option maxHeartbeats 1000000
namespace WM
open PySem PySem.Spec PyProof.Rows L2
def wEqZ (c : String) (sp : Spc) (a b : WE) : WT := fun σ S Q X => a σ S (fun x S1 => b σ S1 (fun y S2 => ∃ fs n, insOf S2 x = some (c, fs) ∧ tyB S2 y = some n ∧ sp [x, y] S2 (fun r S3 => ∃ k, r = .bl k ∧ Q k S3) noX) X) X
end WM
set_option maxHeartbeats 1000000
namespace WM
open PySem PySem.Spec PyProof.Rows L2
end WM
set_option maxHeartbeats 1000000
namespace WM
open PySem PySem.Spec PyProof.Rows L2
end WM
set_option maxHeartbeats 1000000
namespace WM
open PySem PySem.Spec PyProof.Rows L2
def wDispS (a b c : WE) : WE := fun σ S Q _ => a σ S (fun x S1 => ∃ kvs, deref S1 x = .dct false kvs ∧ kvs.length ≤ 1000 ∧ b σ S1 (fun y S2 => c σ S2 (fun z S3 => keyOk false y = true ∧ Q (.dct false (dput (dmerge [] kvs) y z)) S3) noX) noX) noX
end WM
set_option maxHeartbeats 1000000
namespace WM
open PySem PySem.Spec PyProof.Rows L2
def wMethK (c m : String) (sp : Spc) (n mk : Nat) (perm : List Nat) (a : WE) (w wk : WL) : WE := fun σ S Q X => a σ S (fun x S1 => ∃ fs, insOf S1 x = some (c, fs) ∧ fs.lookup m = none ∧ w σ S1 (fun ds S2 => wk σ S2 (fun es S3 => ds.length = n ∧ es.length = mk ∧ sp (reo perm (x :: ds) es) S3 Q X) X) X) X
end WM
set_option maxHeartbeats 1000000
namespace WM
open PySem PySem.Spec PyProof.Rows L2
def wDclr (a : WE) : WE := fun σ S Q X => a σ S (fun x S1 => ∃ n kvs, dctC S1 x = some (n, false, kvs) ∧ Q .non (S1.set n (.dct false []))) X
end WM
set_option maxHeartbeats 1000000
namespace WM
open PySem PySem.Spec PyProof.Rows L2 He
end WM
set_option maxHeartbeats 1000000
namespace WM
open PySem PySem.Spec PyProof.Rows L2
open PySem.SeqAt PySem.MeetsSeq PySem.AutoSeq1
def wEqR (c : String) (sp : Spc) (a b : WE) : WT := fun σ S Q X => a σ S (fun x S1 => b σ S1 (fun y S2 => ∃ fs n, insOf S2 y = some (c, fs) ∧ tyB S2 x = some n ∧ sp [y, x] S2 (fun r S3 => ∃ k, r = .bl k ∧ Q k S3) noX) X) X
end WM
set_option maxHeartbeats 4000000
namespace PySem
namespace HandSPX
open Builtin Builtin.ObjectAttr
section
variable {M : Model} {A : Around} {E : Value → Shared → Prop} {h : Heap} {g : Array GenState} {d : Drawn} {t : Nat} {os : OsState} {kws : List (Str × Value)}
variable {nm q : Str} {C N : Addr} {bs bm bmB : List Value} {hdct : Bool} {sn : List Str} {sub : List Value} {ab : Bool} {col : Option Bool} {dd : Option Addr} {k0 k1 k2 k3 k5 : Option Value} {B newId initId : String}
theorem check_new_kw (F : ExcBaseFacts B newId initId bmB) (hT : ∀ X : String, bm.contains (.type X) = bmB.contains (.type X)) {rest : List Value} {Q : Unit → Shared → Prop}
    (hC : h.get? C = some (excClassObj nm q C N bs bm hdct sn sub ab col dd k0 k1 k2 k3 k5 newId)) (hq : Q () ⟨h, g, d, t, os⟩) : wpAny M A (checkBuiltinCall newId ⟨.ref C :: rest, kws⟩) Q E ⟨h, g, d, t, os⟩ := by
  have hcont : (Value.ref C :: bm).contains (.type B) = true := by rw [List.contains_cons, hT, F.hasB, Bool.or_true]
  have hstar := F.noStar
  simp only [checkBuiltinCall, F.newKind, F.newSplit, F.newRow]
  repeat (first | refine wpAny_loadPart_at hC ?_ | (refine wpAny_isSubtype_exc hC ?_; rw [hcont]) | refine wpAny_staticBase_exc hC ?_ | refine wpAny_madeBy_exc hC ?_ | simp only [bne_self_eq_false, Bool.false_eq_true, if_false] | wp_step)
  exact hq
end
section
variable {prog : Program} {w : World} {A : Around} {E : Value → Shared → Prop} {R : Result → Shared → Prop} {h : Heap} {g : Array GenState} {d : Drawn} {t : Nat} {os : OsState} {kws : List (Str × Value)}
variable {nm q : Str} {C N : Addr} {bs bm bmB : List Value} {hdct : Bool} {sn : List Str} {sub : List Value} {ab : Bool} {col : Option Bool} {dd : Option Addr} {k0 k1 k2 k3 k5 : Option Value} {B newId initId : String}
theorem new_kw (F : ExcBaseFacts B newId initId bmB) (hT : ∀ X : String, bm.contains (.type X) = bmB.contains (.type X)) {rest : List Value}
    (hC : h.get? C = some (excClassObj nm q C N bs bm hdct sn sub ab col dd k0 k1 k2 k3 k5 newId))
    (hq : R (.ok (.ret (.ref (h.objs.size + 1)))) ⟨(h.push { cls := .type "tuple", data := .seq rest.toArray }).push
      { cls := .ref C, data := .fields #[.ref h.objs.size, .none, .none, .none, .bool false, .none] }, g, d, t, os⟩) (hrest : rest.length ≤ sizeLine) :
    codeAny (model prog w) A (.builtin newId ⟨.ref C :: rest, kws⟩) R ⟨h, g, d, t, os⟩ := by
  have hends := F.ends
  have hcB : (Value.ref C :: bm).contains (.type B) = true := by rw [List.contains_cons, hT, F.hasB, Bool.or_true]
  have hcA : (Value.ref C :: bm).contains (.type "AttributeError") = false := by rw [List.contains_cons, hT, F.noAttr]; rfl
  have hcN : (Value.ref C :: bm).contains (.type "NameError") = false := by rw [List.contains_cons, hT, F.noName]; rfl
  refine codeAny_builtinAt F.entry ?_
  unfold Builtin.«BaseException.__new__»
  refine wpAt_bind ?_
  show wpAt _ _ _ (stack >>= _) _ _ _
  refine wpAt_bind (wpAt_stack fun p below => wpAt_of_wpAny ?_)
  wp_walk
  refine wpAt_of_wpAny ?_
  rw [F.owner]
  repeat (first | with_reducible refine wpAny_madeHere_exc F.canon hC ?_ | with_reducible refine wpAny_loadPart_at hC ?_ | (with_reducible refine wpAny_isSubtype_exc hC ?_; first | rw [hcB] | rw [hcA] | rw [hcN]) | wp_step)
  show R _ _
  rw [Heap.size_push]
  exact hq
theorem type_call_kw (F : ExcBaseFacts B newId initId bmB) (hT : ∀ X : String, bm.contains (.type X) = bmB.contains (.type X)) {rest : List Value} {fI : Addr} {Q : Fin → Shared → Prop}
    (hC : h.get? C = some (excClassObj nm q C N bs bm hdct sn sub ab col dd k0 k1 k2 k3 k5 newId))
    (hi : W.Looks (model prog w) h (typeLookup (.ref C) "__init__") (some (.ref fI))) (hb : ∀ self, W.Looks (model prog w) h (bindSpecial (.ref fI) self) (.ref fI, [self])) (hrest : rest.length ≤ sizeLine)
    (hq : codeAny (model prog w) A (.call (.ref fI) ⟨.ref (h.objs.size + 1) :: rest, kws⟩)
      (fun r s' => match r with | .ok (.ret v) => v = .none ∧ Q (.done (.ret (.ref (h.objs.size + 1)))) s' | .ok _ => False | .error e => E e s')
      ⟨(h.push (W.kdv_tup rest)).push (excO C h.objs.size), g, d, t, os⟩) :
    wpAny (model prog w) A (Builtin.«type.__call__» ⟨.ref C :: rest, kws⟩) Q E ⟨h, g, d, t, os⟩ := by
  repeat (first | with_reducible refine wpAny_loadPart_at hC ?_ | with_reducible refine wpAny_madeBy_exc hC ?_ | wp_step)
  refine codeAny_call_builtin_code (Code.quiet_builtin _ F.quiet) (check_new_kw F hT hC ?_)
  refine new_kw F hT hC ?_ hrest
  show wpAny _ _ _ _ _ _
  have k : ∀ b o, h.get? b = some o → ((h.push (W.kdv_tup rest)).push (excO C h.objs.size)).get? b = some o := fun b o e => Heap.get?_push_of_some _ (Heap.get?_push_of_some _ e)
  have hC₁ := k _ _ hC
  have hget : ((h.push (W.kdv_tup rest)).push (excO C h.objs.size)).get? (h.objs.size + 1) = some (excO C h.objs.size) := by heap_get
  have hcC : (Value.ref C :: bm).contains (.ref C) = true := by simp
  have i1 := hi.keeps k
  have b1 := (hb (.ref (h.objs.size + 1))).keeps k
  unfold isInstance
  repeat (first | with_reducible refine wpAny_loadPart_at hget ?_ | (with_reducible refine wpAny_isSubtype_exc hC₁ ?_; rw [hcC]) | wp_step)
  show wpAny _ _ (typeLookup (.ref C) _) _ _ _
  refine i1.at ?_
  refine wpAny_holding (wpAny_bind (b1.at ?_))
  refine wpAny_bind (wpAny_call (codeAny_mono hq fun r s' z => ?_))
  rcases r with e | (v | _ | _ | _) <;> first | exact z | exact z.elim | skip
  obtain ⟨rfl, z⟩ := z
  first
    | exact wpAny_pure (wpAny_pure z)
    | (wp_walk; exact z)
theorem call_kw (F : ExcBaseFacts B newId initId bmB) (hT : ∀ X : String, bm.contains (.type X) = bmB.contains (.type X)) {rest : List Value} {fI : Addr}
    (hC : h.get? C = some (excClassObj nm q C N bs bm hdct sn sub ab col dd k0 k1 k2 k3 k5 newId))
    (hi : W.Looks (model prog w) h (typeLookup (.ref C) "__init__") (some (.ref fI))) (hb : ∀ self, W.Looks (model prog w) h (bindSpecial (.ref fI) self) (.ref fI, [self])) (hrest : rest.length ≤ sizeLine)
    (hq : codeAny (model prog w) (A.under (.builtin "type.__call__" ⟨.ref C :: rest, kws⟩)) (.call (.ref fI) ⟨.ref (h.objs.size + 1) :: rest, kws⟩) (W.InitBack (h.objs.size + 1) R)
      ⟨(h.push (W.kdv_tup rest)).push (excO C h.objs.size), g, d, t, os⟩) :
    codeAny (model prog w) A (.call (.ref C) ⟨rest, kws⟩) R ⟨h, g, d, t, os⟩ := by
  have f1 := tc_lookup
  have f2 := tc_bind (.ref C)
  have hTy : (⟨h, g, d, t, os⟩ : Shared).TypeIs (.ref C) "type" := ⟨_, hC, rfl⟩
  refine codeAny_of_tree ?_
  show wpAny _ _ (callAny (.ref C) _) _ _ _
  repeat (any_goals (first | assumption | with_reducible refine wpAny_loadPart_at hC ?_ | wp_step))
  refine ⟨rfl, ?_⟩
  refine codeAny_call_builtin_at (Code.quiet_builtin _ (by decide +kernel)) entry_typeCall (wpAny_check_type_call_sub hC (type_call_kw F hT hC hi hb hrest ?_))
  refine codeAny_mono hq fun r s' z => ?_
  rcases r with e | (v | _ | _ | _) <;> exact z
end
end HandSPX
end PySem
set_option maxHeartbeats 1000000
namespace WM
open PySem PySem.Spec PyProof.Rows L2
def wMakeC (c : String) (sp : Spc) (dfl : List D) (w : WL) : WE := fun σ S Q X => w σ S (fun ds S1 => sp (.cell S1.length :: (ds ++ dfl)) (S1 ++ [.ins c []])
  (fun d S2 => d = .non ∧ Q (.cell S1.length) S2) (fun c' fs S2 => ∃ o, S2 = S1 ++ [o] ∧ S1.length ∉ refsF fs ∧ X c' fs S1)) X
def excB (K : PySem.W.Frag) (D : Addr) : Bool := He.eqO (PySem.W.findIn K (.ref D) "__getattribute__") (some (some (.builtin "BaseException.__getattribute__"))) && (decide (PySem.W.findIn K (.ref D) "__getattr__" = some none) && (decide (PySem.W.subIn K (.ref D) (.type "BaseException") = some true) &&
  (PySem.W.hasDictIn K D && (He.eqO (PySem.W.findIn K (.ref D) "__class__") (some (some (.builtin "object.__class__"))) && (He.eqO (PySem.W.specialIn K (.builtin "object.__class__") "__get__") (some (some (.builtin "getset_descriptor.__get__"))) && (decide (PySem.W.takesIn K (.builtin "object.__class__") = some true) && decide (PySem.W.mroIn K D (.type "object") = some true)))))))
/-- isinstance(e, MixError), e the handled error -/
def wIsE (errs : List String) (i : Nat) : WE := fun σ S Q _ => ∃ c, σ[i]? = some (some (.ins c [])) ∧ c ∈ errs ∧ Q (.bl true) S
end WM
set_option maxHeartbeats 2000000
namespace PySem.W
open PySem PySem.Spec PySem.Calls PyProof.Rows
section
variable {prog : Program} {w : World} {A : Around} {E : Value → Shared → Prop} {s : Shared} {K : Frag} {x D : Addr} {ox : Obj} {od : Option Obj}
theorem findObj_dataO {C : Addr} {name : Str} {a g : Value} (hc : (clsIn K C).isSome = true) (ha : findIn K (.ref C) name = some (some a)) (hg : specialIn K a "__get__" = some (some g)) (ht : takesIn K a = some true) : findObj K C od name = some (.bind g a) := by
  obtain ⟨cd, hc⟩ := Option.isSome_iff_exists.mp hc
  unfold findObj
  rw [hc, Option.bind_some, ha, Option.bind_some]
  simp [hg, ht]
theorem kin_classO {Q : Option Value → Shared → Prop} (T : L2.ExcC K D) (X : K.In s.heap) (I : InstAt s.heap x ox D od) (h : Q (some (.ref D)) { s with toks := s.toks + 1 }) : wpAny (model prog w) A (getAttr? (.ref x) "__class__") Q E s := by
  have hf : findObj K D od "__class__" = some (.bind (.builtin "getset_descriptor.__get__") (.builtin "object.__class__")) := findObj_dataO (by obtain ⟨cd, hc, _⟩ := any_some T.hd; rw [hc]; rfl) T.ha T.hn T.ht
  obtain ⟨hp, g, d, t, os⟩ := s
  have L0 := I.type (M := model prog w)
  have L1 := looks_findIn (M := model prog w) X T.hg
  have L2 := looks_findIn (M := model prog w) X T.hk
  have L3 := looks_find (M := model prog w) X I hf
  have sub : Looks (model prog w) hp (isInstance (.ref x) (.type "BaseException")) true := L0.andThen (looks_subIn X T.hs)
  have z0 : (false && onTheHeap (Value.builtin "BaseException.__getattribute__")) = false := rfl
  have z2 : (Value.builtin "BaseException.__getattribute__" == Value.builtin "object.__getattribute__") = false := by decide +kernel
  have z1 : (onTheHeap (Value.ref D) && Value.builtin "BaseException.__getattribute__" == Value.builtin "object.__getattribute__") = false := by rw [z2]; rfl
  unfold getAttr? getAttrBy? getAttrBy
  refine wpAny_bind (wpAny_mkText (wpAny_bind (wpAny_attempt (wpAny_holding (wpAny_bind (L0.at (wpAny_bind (L1.at ?_))))))))
  show wpAny _ _ (if (onTheHeap (Value.ref D) && Value.builtin "BaseException.__getattribute__" == Value.builtin "object.__getattribute__") = true then _ else _) _ _ _
  rw [z1, if_neg Bool.false_ne_true]
  unfold getAttrByItsOwn hookBefore
  refine wpAny_bind ?_
  rw [if_pos (show onTheHeap (Value.ref D) = true from rfl)]
  refine L2.at ?_
  refine wpAny_bind (wpAny_attempt (wpAny_holding ?_))
  unfold callGetattribute
  rw [z0, if_neg Bool.false_ne_true]
  unfold boundAndCalled
  rw [PySem.F.excAttr_ValueError.ga.bind (.ref x)]
  refine wpAny_bind (wpAny_pure ?_)
  show wpAny _ _ (call (.builtin "BaseException.__getattribute__") [.ref x, .str "__class__" t]) _ _ _
  refine wpAny_call (codeAny_call_builtin PySem.F.excAttr_ValueError.ga.plain PySem.F.entry_bexc_ga ?_)
  refine @check_slot (model prog w) _ _ ⟨hp, g, d, t + 1, os⟩ "BaseException.__getattribute__" "BaseException" "__getattribute__" (.ref x) [.str "__class__" t] [] _ (by decide +kernel) (by decide +kernel) sub (PySem.F.args_bexc_ga (.ref x) (.str "__class__" t)) ?_
  unfold Builtin.«object.__getattribute__»
  refine wpAny_bind (wpAny_of_eq (a := ((Value.ref x : Value), [Value.str "__class__" t])) (by first | rfl | (simp only [slotArgs]; rfl)) ?_)
  refine wpAny_bind (wpAny_pure (wpAny_bind (L0.at (wpAny_bind (L3.at ?_)))))
  show wpAny _ _ (holding [Value.builtin "object.__class__"] (call (.builtin "getset_descriptor.__get__") [.builtin "object.__class__", .ref x, .ref D]) >>= ret) _ _ _
  refine wpAny_bind (wpAny_holding (wpAny_call (class_get (s := ⟨hp, g, d, t + 1, os⟩) (ox := ox) (od := od) X I T.hm ?_)))
  refine wpAny_pure ?_
  show wpAny _ _ (handedOut (.ref D)) _ _ _
  rw [handedOut_of (v := .ref D) rfl]
  first
    | exact wpAny_pure (wpAny_pure h)
    | exact wpAny_pure h
    | exact wpAny_pure (wpAny_bind (wpAny_pure (wpAny_pure h)))
theorem kitx_excO (T : L2.ExcC K D) : KitX K (.ref x) (.ref D) (fun h => InstAt h x ox D od) where
  ty := fun _ _ _ I => I.type
  it := fun _ _ X _ => by
    obtain ⟨cd, hc, _⟩ := any_some T.hd
    unfold clsIn at hc
    split at hc
    · rename_i c' d' cd' sl' ho
      intro A' Q' E' s' k q
      unfold isType loadHead
      exact wpAny_bind (wpAny_loadPart (k _ _ (X _ _ ho)) (wpAny_pure q))
    · cases hc
  ne := fun h tp dd its n sl X htp => by
    obtain ⟨cd, hc, _⟩ := any_some T.hd
    refine Bool.eq_false_iff.mpr fun q => ?_
    have e : D = tp := Value.ref.inj (beq_iff_eq.mp q)
    subst e
    unfold clsIn at hc
    split at hc
    · rename_i c' d' cd' sl' ho
      have z := (X _ _ ho).symm.trans htp
      cases z
    · cases hc
  ca := fun X I k => kin_classO T X I k
end
end PySem.W
namespace WM
open PySem PySem.Spec PyProof.Rows L2
/-- an own error with one field, made by its keyword -/
structure KnowEK (P : Program) (w : World) (K : PySem.W.Frag) (mg : Str → Option Value) (base : Heap) (x f : String) : Prop where
  ex : ∃ fI fd ps, OexC K (He.ga K x) ∧ PySem.W.findIn K (.ref (He.ga K x)) "__init__" = some (some (.ref fI)) ∧ PySem.W.typeIn K (.ref fI) = some (.type "function") ∧ FnOk P w K mg base (L2N.CX P w) 1 fI fd ps (spXI K (He.ga K x) (Str.ofString f)) ∧ KBn K fd ps 1 [Str.ofString f] (reo [0]) (reo [0]) ∧ mg x = some (.ref (He.ga K x))
theorem knowEK_of {P : Program} {w : World} {K : PySem.W.Frag} {mg : Str → Option Value} {base : Heap} {x f : String} {ps : List Str} {fd : FuncData} (h : oneB K x f = true) (F : OexC K (He.ga K x) → PySem.W.findIn K (.ref (He.ga K x)) (Str.ofString f) = some none → FnOk P w K mg base (L2N.CX P w) 1 (He.ma K (He.ga K x) "__init__") fd ps (spXI K (He.ga K x) (Str.ofString f)))
    (hb : KBn K fd ps 1 [Str.ofString f] (reo [0]) (reo [0])) (hm : mg x = some (.ref (He.ga K x))) : KnowEK P w K mg base x f := by
  unfold oneB at h
  obtain ⟨h1, h⟩ := He.ba h
  obtain ⟨h2, h⟩ := He.ba h
  obtain ⟨h3, h4⟩ := He.ba h
  have T := oexB_ok h1
  exact ⟨⟨_, fd, ps, T, He.eqO_ok h2, of_decide_eq_true h3, F T (He.eqO_ok h4), hb, hm⟩⟩
section
variable {X : Cx} {k : Nat} {C f : Addr} {fd : FuncData} {ps ks : List Str} {sp : Sp} {g : List Value → List Value → List Value} {gV : List V → List V → List V}
theorem run_mkV {pins : List (Addr × Obj)} {σ : L2.St} {H : Hp} {s : Shared} {Q : VK} {us ws : List Value} {vs zs : List V} (T : OexC X.K C) (iC : PySem.W.findIn X.K (.ref C) "__init__" = some (some (.ref f))) (tI : PySem.W.typeIn X.K (.ref f) = some (.type "function"))
    (F1 : FnOk X.prog X.w X.K X.mg X.base (L2N.CX X.prog X.w) k f fd ps sp) (hr : Room (k + 1) X.A) (bnd : ∀ (s : Shared) (a : Addr), X.K.In s.heap → BindsTo s fd ⟨.ref a :: us, ks.zip ws⟩ (ps.zip (g (.ref a :: us) ws))) (rel : ∀ a : Addr, Vals (gV (.ref a :: vs) zs) (g (.ref a :: us) ws))
    (I : Inv X pins σ H s) (hl : us.length ≤ sizeLine) (h : ∀ a, H a = none → sp (gV (.ref a :: vs) zs) (upd H a (exo a C none)) (fun v H3 => v = .non ∧ Q (.ref a) H3) (fun _ _ _ => False)) :
    wpAny (model X.prog X.w) X.A (call (.ref C) us (ks.zip ws)) (EP X pins σ Q) X.xe s := by
  obtain ⟨c1, c2, c3, c4, bm, c6, c7, c8, c9, c10, c11, c12, c13, c14, c15, look, hbm⟩ := T.cls
  obtain ⟨hp, gs, dr, tk, os⟩ := s
  have le1 : hp.objs.size ≤ hp.objs.size + 1 := Nat.le_succ _
  have new : H (hp.objs.size + 1) = none := I.hok.fresh le1
  have keep2 : ∀ b o, hp.get? b = some o → ((hp.push (PySem.W.kdv_tup us)).push (PySem.HandSPX.excO C hp.objs.size)).get? b = some o := fun b o e => by
    exact Heap.get?_push_of_some _ (Heap.get?_push_of_some _ e)
  have at2 : ((hp.push (PySem.W.kdv_tup us)).push (PySem.HandSPX.excO C hp.objs.size)).get? (hp.objs.size + 1) = some (PySem.HandSPX.excO C hp.objs.size) := by
    heap_get
  have I2 : Inv X pins σ (upd H (hp.objs.size + 1) (exo (hp.objs.size + 1) C none)) ⟨(hp.push (PySem.W.kdv_tup us)).push (PySem.HandSPX.excO C hp.objs.size), gs, dr, tk, os⟩ := by
    refine I.laid (t' := tk) (a := hp.objs.size + 1) (o := exo (hp.objs.size + 1) C none) keep2 le1 ?_
    exact exo_ok at2
  have hq := h _ new
  refine wpAny_call (PySem.HandSPX.call_kw F.excBase_ValueError (fun Y => PySem.HandSPX.refsVE_contains Y bm hbm) (I.kIn _ _ look) (PySem.W.looks_findIn I.kIn iC) (fun self => PySem.W.bind_fn I.kIn self tI) hl
    (codeAny_mono (F1.run _ X.stack _ _ ⟨Value.ref (hp.objs.size + 1) :: us, ks.zip ws⟩ (g (Value.ref (hp.objs.size + 1) :: us) ws) _ _ (fun _ _ _ => False) (hr.make C us (ks.zip ws)) (I2.env0.make C us (ks.zip ws)) (bnd _ _ I2.kIn) (rel _) hq) fun r s' post => ?_))
  cases r with
  | error er => exact (noErr post).elim
  | ok fl =>
    cases fl with
    | ret u =>
      obtain ⟨v, H2, I3, rv, ev, q2⟩ := I2.after post
      subst ev
      exact ⟨rv, ⟨V.ref (hp.objs.size + 1), H2, I3, rfl, q2⟩⟩
    | next => exact False.elim post
    | brk => exact False.elim post
    | cont => exact False.elim post
end
def wMkE (c f : String) (w : WL) : WE := fun σ S Q X => w σ S (fun ds S1 => ∃ d, ds = [d] ∧ Q (.er c [(f, d)]) S1) X
def wMkE0 (c : String) : WE := fun σ S Q _ => Q (.er c []) S
section
variable {X : Cx} {xi : Xi} {B : Bs} {W : WX} {j : Nat} {c f : String} {p pos kpos : Pos} {e : Expr} {es : List Expr} {w : WL} {a : WE}
theorem mkV_end {K : PySem.W.Frag} {S : Store} {F : Hp} {ρ : List Addr} {H : Hp} {y : V} {d : D} {C : Addr} {f : Str} {Q : VK} {a : Addr} (R : Rel K B S F ρ H) (ha : H a = none) (hC : C = He.ga K c) {fs : String} (hf : f = Str.ofString fs) (ry : Rep K F ρ y d)
    (q : ∀ H' F', Rel K B S F' ρ H' → Ext F ρ F' ρ → Rep K F' ρ (.ref a) (.er c [(fs, d)]) → Q (.ref a) H') : spXI K C f [.ref a, y] (upd H a (exo a C none)) (fun v H3 => v = .non ∧ Q (.ref a) H3) (fun _ _ _ => False) := by
  subst hC hf
  refine ⟨a, y, rfl, upd_same, fun dx hdx hne => ⟨rfl, ?_⟩⟩
  have hdx' : H dx = none := by rw [upd_ne hne] at hdx; exact hdx
  have eq : upd (upd (upd H a (exo a (He.ga K c) none)) dx (exd dx [(Str.ofString fs, y)])) a (exo a (He.ga K c) (some dx)) = upd (upd H dx (exd dx [(Str.ofString fs, y)])) a (exo a (He.ga K c) (some dx)) := by
    funext b
    by_cases hb : b = a
    · subst hb; rw [upd_same, upd_same]
    · rw [upd_ne hb, upd_ne hb]
      by_cases h3 : b = dx
      · subst h3; rw [upd_same, upd_same]
      · rw [upd_ne h3, upd_ne h3, upd_ne hb]
  rw [eq]
  obtain ⟨R2, e2⟩ := R.alloc (ho := exd dx [(Str.ofString fs, y)]) hdx'
  have ha2 : upd H dx (exd dx [(Str.ofString fs, y)]) a = none := by rw [upd_ne hne.symm]; exact ha
  obtain ⟨R3, e3⟩ := R2.alloc (ho := exo a (He.ga K c) (some dx)) ha2
  refine q _ _ R3 (e2.trans e3) ⟨a, some dx, [(Str.ofString fs, y)], rfl, upd_same, ?_, rfl, ry.mono (e2.trans e3), True.intro⟩
  show upd _ a _ dx = _
  rw [upd_ne hne, upd_same]
/-- C(e) -/
theorem e_mkE (kn : KnowE X.prog X.w X.K X.mg X.base c f) (hr : Room j X.A) (hk : 2 ≤ j) (ha : PA X (e :: es) (tL X.K xi B W w)) (hg : Gl X (Str.ofString c) := by rfl) (hdb : (Str.ofString c == ("__debug__" : Str)) = false := by decide)
    (he : starEach (e :: es) X.env = (false, eval e X.env) :: starEach es X.env := by rfl) (hpl : (backTo pos (starEach es X.env)).any (·.1) = false := by rfl) :
    PE X (.Call (.Name (Str.ofString c) p) (e :: es) [] pos) (tE X.K xi B W (wMkE c f w)) := by
  obtain ⟨fI, fd, ps, T, h1, h2, F, hb, hm⟩ := kn.ex
  refine ⟨fun pins s σ H Q I ⟨env, S, F0, ρ, Qn, Qx, R, E, hw, P, PX⟩ => ?_⟩
  refine wpAny_Call_Name_kw (ld_glob I hg hm ?_ hdb)
  refine PySem.W.callWith_K (h₀ := X.base) I.ok.mod.kin T.kC (thn (ha.run pos pins s σ H (fun vs H1 => ∃ v, vs = [v] ∧ ∀ a, H1 a = none → spXI X.K (He.ga X.K c) (Str.ofString f) [.ref a, v] (upd H1 a (exo a (He.ga X.K c) none)) (fun u H3 => u = .non ∧ Q (.ref a) H3) (fun _ _ _ => False)) I ?_) fun us s1 ⟨vs, H1, I1, r1, v, hv, q1⟩ => ⟨I1.kIn, ?_⟩) he hpl
  · refine ⟨env, S, F0, ρ, _, Qx, R, E, hw, fun ds S1 vs H1 F1 ρ1 ⟨d, hd, q⟩ R1 e1 r1 => ?_, PX⟩
    subst hd
    obtain ⟨v, rfl, rv⟩ := repL1 r1
    exact ⟨v, rfl, fun a ha => mkV_end R1 ha rfl rfl rv fun H' F' R' e' r' => P _ _ _ _ _ _ q R' (e1.trans e') r'⟩
  subst hv
  have lus : us.length = 1 := r1.length.symm
  obtain ⟨u, rfl⟩ := List.length_eq_one_iff.mp lus
  have hq0 := q1
  refine run_mkV (ks := []) (ws := []) (us := [u]) (vs := [v]) (zs := []) (g := fun a _ => a) (gV := fun a _ => a) T h1 h2 F (hr.mono hk) (fun s a hin => ?_) (fun a => .cons rfl r1) I1 (by rw [sizeLine_eq, List.length_singleton]; decide) q1
  have hl : ([Value.ref a, u] ++ []).length = ps.length := by
    have na : ∃ b, H1 b = none := ⟨s1.heap.objs.size, I1.hok.fresh (Nat.le_refl _)⟩
    obtain ⟨b, hb2⟩ := na
    exact (F.len _ _ _ _ (q1 b hb2)).symm ▸ rfl
  have z := hb s [Value.ref a, u] hin hl
  rw [List.append_nil] at z
  exact z
/-- C(f = e) -/
theorem e_mkEK (kn : KnowEK X.prog X.w X.K X.mg X.base c f) (hr : Room j X.A) (hk : 2 ≤ j) (ha : PE X e (tE X.K xi B W a)) (hg : Gl X (Str.ofString c) := by rfl) (hdb : (Str.ofString c == ("__debug__" : Str)) = false := by decide)
    (hall : (backToKw pos (keywordEach [⟨some (Str.ofString f), e, kpos⟩] X.env)).all (·.1.isSome) = true := by rfl) (hks : (backToKw pos (keywordEach [⟨some (Str.ofString f), e, kpos⟩] X.env)).filterMap (·.1) = [Str.ofString f] := by rfl)
    (hpl : ((backTo pos (starEach [] X.env)).any (·.1) || (backToKw pos (keywordEach [⟨some (Str.ofString f), e, kpos⟩] X.env)).any (·.1.isNone)) = false := by rfl) :
    PE X (.Call (.Name (Str.ofString c) p) [] [⟨some (Str.ofString f), e, kpos⟩] pos) (tE X.K xi B W (wMkE c f (wCons a wNil))) := by
  obtain ⟨fI, fd, ps, T, h1, h2, F, hb, hm⟩ := kn.ex
  refine ⟨fun pins s σ H Q I ⟨env, S, F0, ρ, Qn, Qx, R, E, hw, P, PX⟩ => ?_⟩
  refine wpAny_Call_Name_kw (ld_glob I hg hm ?_ hdb)
  refine PySem.W.callWith_KW0 (h₀ := X.base) I.ok.mod.kin T.kC hall ?_ hpl
  have hkw : PK X [⟨some (Str.ofString f), e, kpos⟩] (tL X.K xi B W (wCons a wNil)) := k_cons ha k_nil
  refine thn (hkw.run pos pins s σ H (fun vs H1 => ∃ v, vs = [v] ∧ ∀ a, H1 a = none → spXI X.K (He.ga X.K c) (Str.ofString f) [.ref a, v] (upd H1 a (exo a (He.ga X.K c) none)) (fun u H3 => u = .non ∧ Q (.ref a) H3) (fun _ _ _ => False)) I ?_) fun ws s1 ⟨vs, H1, I1, r1, v, hv, q1⟩ => ⟨I1.kIn, ?_⟩
  · refine ⟨env, S, F0, ρ, _, Qx, R, E, hw, fun ds S1 vs H1 F1 ρ1 ⟨d, hd, q⟩ R1 e1 r1 => ?_, PX⟩
    subst hd
    obtain ⟨v, rfl, rv⟩ := repL1 r1
    exact ⟨v, rfl, fun a ha => mkV_end R1 ha rfl rfl rv fun H' F' R' e' r' => P _ _ _ _ _ _ q R' (e1.trans e') r'⟩
  subst hv
  rw [hks]
  exact run_mkV (ks := [Str.ofString f]) (ws := ws) (us := []) (vs := []) (zs := [v]) (g := reo [0]) (gV := reo [0]) T h1 h2 F (hr.mono hk) (fun s b hin => hb.to s [.ref b] ws hin rfl r1.length.symm) (fun b => hb.rel (.cons rfl .nil) r1) I1 (Nat.zero_le _) q1
/-- C() -/
theorem e_mkE0 (kn : KnowE0 X.prog X.w X.K X.mg X.base c) (hr : Room j X.A) (hk : 2 ≤ j) (hg : Gl X (Str.ofString c) := by rfl) (hdb : (Str.ofString c == ("__debug__" : Str)) = false := by decide) :
    PE X (.Call (.Name (Str.ofString c) p) [] [] pos) (tE X.K xi B W (wMkE0 c)) := by
  obtain ⟨fI, fd, ps, T, h1, h2, F, hb, hm⟩ := kn.ex
  refine ⟨fun pins s σ H Q I ⟨env, S, F0, ρ, Qn, Qx, R, E, hw, P, PX⟩ => ?_⟩
  refine wpAny_Call_Name_kw (ld_glob I hg hm ?_ hdb)
  refine PySem.W.callWith_K0 I.kIn T.kC ?_
  have hq : ∀ a, H a = none → spX0 (He.ga X.K c) [.ref a] (upd H a (exo a (He.ga X.K c) none)) (fun u H3 => u = .non ∧ Q (.ref a) H3) (fun _ _ _ => False) := fun a ha => by
    obtain ⟨R2, e2⟩ := R.alloc (ho := exo a (He.ga X.K c) none) ha
    exact ⟨a, rfl, upd_same, rfl, P _ _ _ _ _ _ hw R2 e2 ⟨a, none, [], rfl, upd_same, rfl, True.intro⟩⟩
  refine run_mkV (ks := []) (ws := []) (us := []) (vs := []) (zs := []) (g := fun a _ => a) (gV := fun a _ => a) T h1 h2 F (hr.mono hk) (fun s2 a hin => ?_) (fun a => .cons rfl .nil) I (Nat.zero_le _) hq
  have hl : ([Value.ref a] ++ []).length = ps.length := by
    have na := hq s.heap.objs.size (I.hok.fresh (Nat.le_refl _))
    have := F.len _ _ _ _ na
    simpa using this
  have z := hb s2 [Value.ref a] hin hl
  rw [List.append_nil] at z
  exact z
end
def wEf (errs : List String) (f : String) (a : WE) : WE := fun σ S Q X => a σ S (fun x S1 => ∃ c fs d, x = .er c fs ∧ c ∈ errs ∧ fs.lookup f = some d ∧ Q d S1) X
section
variable {X : Cx} {xi : Xi} {B : Bs} {W : WX} {a : WE} {e : Expr} {pos : Pos} {errs : List String} {f : String}
/-- what the errors' classes are asked -/
structure EfC (K : PySem.W.Frag) (errs : List String) (f : String) : Prop where
  xf : ∀ c ∈ errs, XfC K (He.ga K c)
  no : ∀ c ∈ errs, PySem.W.findIn K (.ref (He.ga K c)) (Str.ofString f) = some none
def efB (K : PySem.W.Frag) (errs : List String) (f : String) : Bool := errs.all fun c => xfB K (He.ga K c) && He.eqO (PySem.W.findIn K (.ref (He.ga K c)) (Str.ofString f)) (some none)
theorem efB_ok {K : PySem.W.Frag} (h : efB K errs f = true) : EfC K errs f := by
  unfold efB at h
  refine ⟨fun c hc => ?_, fun c hc => ?_⟩
  · exact xfB_ok (He.ba (List.all_eq_true.mp h c hc)).1
  · exact He.eqO_ok (He.ba (List.all_eq_true.mp h c hc)).2
theorem repf_lookup {K : PySem.W.Frag} {F : Hp} {ρ : List Addr} : ∀ {fs : List (String × D)} {ps : List (Str × V)} {d : D}, RepF K F ρ ps fs → fs.lookup f = some d → ∃ v, ps.lookup (Str.ofString f) = some v ∧ Rep K F ρ v d
  | [], _, _, _, h => by cases h
  | (g, y) :: fs, [], _, r, _ => r.elim
  | (g, y) :: fs, (n, v) :: ps, d, ⟨r1, r2, r3⟩, h => by
    subst r1
    by_cases e : f = g
    · subst e
      have : y = d := by simpa [List.lookup] using h
      subst this
      exact ⟨v, by simp [List.lookup], r2⟩
    · have h1 : (f == g) = false := by simpa using e
      have h2 : (Str.ofString f == Str.ofString g) = false := by simpa using e
      simp only [List.lookup, h1] at h
      obtain ⟨u, h3, h4⟩ := repf_lookup r3 h
      exact ⟨u, by simp only [List.lookup, h2]; exact h3, h4⟩
theorem e_ef (T : EfC X.K errs f) (ha : PE X e (tE X.K xi B W a)) (hb : attributeBase e (Str.ofString f) X.env (eval e X.env) = eval e X.env := by rfl) : PE X (.Attribute e (Str.ofString f) pos) (tE X.K xi B W (wEf errs f a)) := by
  refine ⟨fun pins s σ H Q I ⟨env, S, F, ρ, Qn, Qx, R, E, hw, P, PX⟩ => ?_⟩
  refine attr_of hb (thn (ha.run pins s σ H (fun x H1 => ∃ (a C dx : Addr) (ps : List (Str × V)) (v : V), x = .ref a ∧ H1 a = some (exo a C (some dx)) ∧ H1 dx = some (exd dx ps) ∧ XfC X.K C ∧ PySem.W.findIn X.K (.ref C) (Str.ofString f) = some none ∧ ps.lookup (Str.ofString f) = some v ∧ Q v H1) I ?_) fun u s1 hh => ?_)
  · refine ⟨env, S, F, ρ, _, Qx, R, E, hw, fun x S1 v H1 F1 ρ1 ⟨c, fs, d, hx, hc, hl, q⟩ R1 e1 r1 => ?_, PX⟩
    subst hx
    obtain ⟨b, od, ps, rfl, h1, h2, h3⟩ := r1
    obtain ⟨v, h4, h5⟩ := repf_lookup h3 hl
    cases od with
    | none =>
      have h2 : ps = [] := h2
      subst h2
      cases h4
    | some dx => exact ⟨b, _, dx, ps, v, rfl, R1.le _ _ h1, R1.le _ _ h2, T.xf c hc, T.no c hc, h4, P _ _ _ _ _ _ q R1 e1 h5⟩
  obtain ⟨x, H1, I1, rx, b, C, dx, ps, v, rfl, h1, h2, T1, hno, hl, q⟩ := hh
  obtain rfl : u = Value.ref b := rx
  obtain ⟨t1, ho⟩ := exo_at I1.hok h1
  obtain ⟨mA, hns, hr⟩ := exd_at I1.hok h2
  obtain ⟨od, hod, hlk⟩ := lookIn_ns hns
  obtain ⟨u, hu, ru⟩ := RelO.some_of (v := v) (o := mA (Str.ofString f)) (by rw [← hl]; exact hr _)
  have J : PySem.W.InstAt s1.heap b { cls := .ref C, dict := some dx, data := .fields #[.ref t1, .none, .none, .none, .bool false, .none] } C (some od) := ⟨ho, rfl, rfl, hod⟩
  exact HandSPX.exc_get I1.kIn J T1.ga T1.gg T1.exC (PySem.W.findObj_own T1.hdC hno rfl (by rw [hlk, hu])) (handed_of ru) ⟨v, H1, I1.tok _, ru, q⟩
end
def kindE (c k : String) : Bool := k == "MixError" || k == "ValueError" || c == k
def wIsV (errs : List String) (k : String) (a : WE) : WE := fun σ S Q X => a σ S (fun x S1 => ∃ c fs, x = .er c fs ∧ c ∈ errs ∧ Q (.bl (kindE c k)) S1) X
/-- the class k as a value -/
def clsV (K : PySem.W.Frag) (k : String) : V := if k = "ValueError" then .ty "ValueError" else .ref (He.ga K k)
def clsU (K : PySem.W.Frag) (k : String) : Value := if k = "ValueError" then .type "ValueError" else .ref (He.ga K k)
structure IvC (K : PySem.W.Frag) (errs : List String) (k : String) : Prop where
  ex : ∀ c ∈ errs, ExcC K (He.ga K c)
  up : ∀ c ∈ errs, PySem.W.kitOne K (.ref (He.ga K c)) (clsU K k) = some (kindE c k)
def ivB (K : PySem.W.Frag) (errs : List String) (k : String) : Bool := errs.all fun c => excB K (He.ga K c) && decide (PySem.W.kitOne K (.ref (He.ga K c)) (clsU K k) = some (kindE c k))
theorem excB_ok {K : PySem.W.Frag} {D : Addr} (h : excB K D = true) : ExcC K D := by
  unfold excB at h
  obtain ⟨a1, h⟩ := He.ba h
  obtain ⟨a2, h⟩ := He.ba h
  obtain ⟨a3, h⟩ := He.ba h
  obtain ⟨a4, h⟩ := He.ba h
  obtain ⟨a5, h⟩ := He.ba h
  obtain ⟨a6, h⟩ := He.ba h
  obtain ⟨a7, a8⟩ := He.ba h
  exact ⟨He.eqO_ok a1, of_decide_eq_true a2, of_decide_eq_true a3, a4, He.eqO_ok a5, He.eqO_ok a6, of_decide_eq_true a7, of_decide_eq_true a8⟩
theorem ivB_ok {K : PySem.W.Frag} {errs : List String} {k : String} (h : ivB K errs k = true) : IvC K errs k :=
  ⟨fun c hc => excB_ok (He.ba (List.all_eq_true.mp h c hc)).1, fun c hc => of_decide_eq_true (He.ba (List.all_eq_true.mp h c hc)).2⟩
/-- isinstance(x, c), x an own error -/
def rIsV (K : PySem.W.Frag) : List V → Hp → VK → Prop := fun xs H Q => ∃ (a C : Addr) (d : Option Addr) (ps : List (Str × V)) (c : V) (cv : Value) (b : Bool), xs = [.ref a, c] ∧ H a = some (exo a C d) ∧ ErD H d ps ∧ ExcC K C ∧ (∀ u, RelV c u → u = cv) ∧ PySem.W.kitOne K (.ref C) cv = some b ∧ Q (.bl b) H
theorem call_isV {X : Cx} : CallR X (.builtin "isinstance") (rIsV X.K) := by
  intro pins s σ H xs us Q I r h
  obtain ⟨a, C, d, ps, c, cv, b, rfl, h1, h2, T, hcv, e, q⟩ := h
  obtain ⟨u1, u2, rfl, r1, r2⟩ := vals2 r
  cases (show u1 = Value.ref a from r1)
  have ec := hcv _ r2
  subst ec
  obtain ⟨t1, ho⟩ := exo_at I.hok h1
  have J : ∃ od, PySem.W.InstAt s.heap a { cls := .ref C, dict := d, data := .fields #[.ref t1, .none, .none, .none, .bool false, .none] } C od := by
    cases d with
    | none => exact ⟨none, ho, rfl, rfl, trivial⟩
    | some dx =>
      obtain ⟨mA, hns, _⟩ := exd_at I.hok h2
      obtain ⟨od, hod, _⟩ := lookIn_ns hns
      exact ⟨some od, ho, rfl, rfl, hod⟩
  obtain ⟨od, J⟩ := J
  exact PySem.W.kia_one (PySem.W.kitx_excO T) I.kIn J e (fun z => nomatch z) fun tk => ⟨.bl b, H, I.tok tk, rfl, q⟩
section
variable {X : Cx} {xi : Xi} {B : Bs} {W : WX} {a : WE} {e : Expr} {errs : List String} {k : String}
theorem e_isV (T : IvC X.K errs k) (h : PE X e (tCB (rIsV X.K) (tCons (tE X.K xi B W a) (tCons (tC (clsV X.K k)) tNil)))) : PE X e (tE X.K xi B W (wIsV errs k a)) :=
  h.weak fun σ H Q ⟨env, S, F, ρ, Qn, Qx, R, E, h2, P, PX⟩ => ⟨env, S, F, ρ, _, Qx, R, E, h2, fun x S1 v H1 F1 ρ1 ⟨c, fs, hx, hc, q⟩ R1 e1 r1 => by
    subst hx
    obtain ⟨b, od, ps, rfl, h3, h4, h5⟩ := r1
    have h4' : ErD H1 od ps := by
      cases od with
      | none => exact h4
      | some dx => exact R1.le _ _ h4
    refine ⟨b, _, od, ps, clsV X.K k, clsU X.K k, kindE c k, rfl, R1.le _ _ h3, h4', T.ex c hc, fun u ru => ?_, T.up c hc, P _ _ _ _ _ _ q R1 e1 rfl⟩
    unfold clsV at ru
    unfold clsU
    split
    · rename_i hk; rw [if_pos hk] at ru; exact ru
    · rename_i hk; rw [if_neg hk] at ru; exact ru, PX⟩
theorem e_isVo (T : IvC X.K errs k) (h : PE X e (tCB (rIsV X.K) (tCons (tE X.K xi B W a) (tCons (tC (.ref (He.ga X.K k))) tNil)))) (hk : k ≠ "ValueError" := by decide) : PE X e (tE X.K xi B W (wIsV errs k a)) := e_isV T (by
  unfold clsV
  rw [if_neg hk]
  exact h)
theorem e_isVt (T : IvC X.K errs "ValueError") (h : PE X e (tCB (rIsV X.K) (tCons (tE X.K xi B W a) (tCons (tC (.ty "ValueError")) tNil)))) : PE X e (tE X.K xi B W (wIsV errs "ValueError" a)) := e_isV T (by
  unfold clsV
  rw [if_pos rfl]
  exact h)
end
def wDisp1C (a b : WE) : WE := fun σ S Q _ => a σ S (fun y S1 => b σ S1 (fun z S2 => keyOk false y = true ∧ Q (.cell S2.length) (S2 ++ [.dct false [(y, z)]])) noX) noX
section
variable {X : Cx} {xi : Xi} {B : Bs} {W : WX}
theorem e_disp1C {k v : Expr} {pos : Pos} {a b : WE} (hk : ∀ B', PE X k (tE X.K xi B' W0 a)) (hv : ∀ B', PE X v (tE X.K xi B' W0 b)) : PE X (.Dict [some k] [v] pos) (tE X.K xi B W (wDisp1C a b)) :=
  (pe_disp (pps_cons (PE.exi hk) (PE.exi hv) pps_nil) rfl rfl (by simp) (by simp)).weak fun σ H Q ⟨env, S, F, ρ, Qn, Qx, R, E, h2, P, PX⟩ => fun p hp => by
    have uD := R.unt hp
    have hB := R.le0 hp
    have R1 := R.updU (o := .dK []) uD hB
    have u1 : Unt S F ρ (upd H p (.dK [])) p := uD.upd
    refine ⟨_, env, S, F, ρ, _, _, R1.enter, E, h2, fun y S5 v5 H5 F5 ρ5 q5 R5 e5 r5 => ?_, fun _ _ _ _ _ _ _ z => z.elim⟩
    refine ⟨_, env, S5, F5, ρ5, _, _, R5, E.mono e5, q5, fun z S6 v6 H6 F6 ρ6 ⟨hy, q6⟩ R6 e6 r6 => ?_, fun _ _ _ _ _ _ _ z => z.elim⟩
    have e56 := e5.trans e6
    have L6 := R1.leave R6 e56
    obtain ⟨h6, u6⟩ := Unt.stays R1 R6 u1 upd_same
    obtain ⟨κ, ek1, ek2⟩ := key_flat hy r5
    subst ek1 ek2
    refine ⟨h6, [(κ, v6)], rfl, by simp, ?_⟩
    show Q (.ref p) (upd H6 p (.dK [(κ, v6)]))
    let H7 : Hp := fun b => if b = p then none else H6 b
    have R7 : Rel X.K B S6 F6 ρ6 H7 := L6.off u6 hB fun b hb => if_neg hb
    have eC : Ext F6 ρ6 F6 (ρ6 ++ [p]) := ⟨fun _ _ z => .inl z, fun k a z => by rw [List.getElem?_append_left (List.getElem?_eq_some_iff.mp z).1]; exact z⟩
    obtain ⟨R8, e8⟩ := R7.allocC (ho := .dK [(κ, v6)]) (o := .dct false [(kOf κ, z)]) (show H7 p = none from if_pos rfl) ⟨_, upd_same, rfl, r6.mono eC, True.intro⟩
    have eH : upd H7 p (.dK [(κ, v6)]) = upd H6 p (.dK [(κ, v6)]) := by
      funext b
      by_cases hb : b = p
      · subst hb; rw [upd_same, upd_same]
      · rw [upd_ne hb, upd_ne hb]; exact if_neg hb
    rw [eH] at R8
    exact P _ _ _ _ _ _ q6 R8 (e56.trans e8) ⟨p, by rw [← R6.len]; simp, rfl⟩
end
end WM
set_option maxHeartbeats 4000000
namespace WM
abbrev errs02 : List String := ["BadName", "DuplicateName", "UnknownName", "BadCount", "BadText", "BadCell", "BadNumber", "BadLimits", "BadRing", "Barred", "NoWhole", "Shut", "NotBarred", "UnlikeLayouts", "AllDrawn", "NothingToUndo"]
abbrev errs_name : List String := ["BadName", "DuplicateName", "UnknownName"]
abbrev errs_count : List String := ["BadCount"]
abbrev errs_text : List String := ["BadText"]
abbrev errs_value : List String := ["BadCell", "BadNumber", "BadLimits", "BadRing", "Barred", "NoWhole", "Shut"]
end WM
namespace K02
open PySem PySem.Spec PyProof.Rows L2 WM
def top (i : Nat) : Stmt := PySem.Challenge.pw_wholemixes_k02_errors.main.body.getD i (.Pass ⟨0, 0, 0, 0⟩)
end K02
set_option maxHeartbeats 4000000
namespace K02
open PySem PySem.Spec PyProof.Rows L2 WM
def d0 : DefM := ⟨.meth "AllDrawn" "__init__", "__init__", "AllDrawn.__init__", (inClass (top 15) 0), []⟩
def d1 : DefM := ⟨.meth "BadCell" "__init__", "__init__", "BadCell.__init__", (inClass (top 7) 0), []⟩
def d2 : DefM := ⟨.meth "BadCount" "__init__", "__init__", "BadCount.__init__", (inClass (top 5) 0), []⟩
def d3 : DefM := ⟨.meth "BadLimits" "__init__", "__init__", "BadLimits.__init__", (inClass (top 9) 0), []⟩
def d4 : DefM := ⟨.meth "BadName" "__init__", "__init__", "BadName.__init__", (inClass (top 2) 0), []⟩
def d5 : DefM := ⟨.meth "BadNumber" "__init__", "__init__", "BadNumber.__init__", (inClass (top 8) 0), []⟩
def d6 : DefM := ⟨.meth "BadRing" "__init__", "__init__", "BadRing.__init__", (inClass (top 10) 0), []⟩
def d7 : DefM := ⟨.meth "BadText" "__init__", "__init__", "BadText.__init__", (inClass (top 6) 0), []⟩
def d8 : DefM := ⟨.meth "Barred" "__init__", "__init__", "Barred.__init__", (inClass (top 11) 0), []⟩
def d9 : DefM := ⟨.meth "DuplicateName" "__init__", "__init__", "DuplicateName.__init__", (inClass (top 3) 0), []⟩
def d10 : DefM := ⟨.meth "NoWhole" "__init__", "__init__", "NoWhole.__init__", (inClass (top 13) 0), []⟩
def d11 : DefM := ⟨.meth "NotBarred" "__init__", "__init__", "NotBarred.__init__", (inClass (top 12) 0), []⟩
def d12 : DefM := ⟨.meth "NothingToUndo" "__init__", "__init__", "NothingToUndo.__init__", (inClass (top 17) 0), []⟩
def d13 : DefM := ⟨.meth "Shut" "__init__", "__init__", "Shut.__init__", (inClass (top 16) 0), []⟩
def d14 : DefM := ⟨.meth "UnknownName" "__init__", "__init__", "UnknownName.__init__", (inClass (top 4) 0), []⟩
def d15 : DefM := ⟨.meth "UnlikeLayouts" "__init__", "__init__", "UnlikeLayouts.__init__", (inClass (top 14) 0), []⟩
def d16 : DefM := ⟨.fn "_law_draw", "_law_draw", "_law_draw", (top 20), []⟩
def d17 : DefM := ⟨.fn "_law_start", "_law_start", "_law_start", (top 19), []⟩
def d18 : DefM := ⟨.fn "_law_field", "_law_field", "_law_field", (top 24), []⟩
def d19 : DefM := ⟨.fn "_law_kinds", "_law_kinds", "_law_kinds", (top 25), []⟩
def d20 : DefM := ⟨.fn "_law_thing", "_law_thing", "_law_thing", (top 21), []⟩
def d21 : DefM := ⟨.fn "_law_stands", "_law_stands", "_law_stands", (top 26), []⟩
def d22 : DefM := ⟨.fn "_law_made", "_law_made", "_law_made", (top 22), []⟩
def d23 : DefM := ⟨.fn "_law_named", "_law_named", "_law_named", (top 23), []⟩
def d24 : DefM := ⟨.fn "law", "law", "law", (top 27), []⟩
def fn : List DefM := [d0, d1, d2, d3, d4, d5, d6, d7, d8, d9, d10, d11, d12, d13, d14, d15, d16, d17, d18, d19, d20, d21, d22, d23, d24]
def fa : List He.Fa := [.free "ValueError", .free "dict", .free "isinstance", .free "len", .free "list", .free "range", .free "repr", .free "str", .free "tuple", .glo "AllDrawn", .glo "BadCell", .glo "BadCount", .glo "BadLimits", .glo "BadName", .glo "BadNumber", .glo "BadRing", .glo "BadText", .glo "Barred", .glo "DuplicateName", .glo "MixError", .glo "NoWhole", .glo "NotBarred", .glo "NothingToUndo", .glo "Shut", .glo "UnknownName", .glo "UnlikeLayouts", .free "int", .glo "_law_draw", .free "abs", .glo "_law_start", .glo "_law_field", .glo "_law_kinds", .glo "_law_thing", .glo "_law_stands", .glo "_law_made", .glo "_law_named", .glo "law"]
def ex (K : PySem.W.Frag) : Bool := mixB K (He.ga K "MixError") && (one0B K "AllDrawn" && (oneB K "BadCell" "value" && (oneB K "BadCount" "count" && (oneB K "BadLimits" "value" && (oneB K "BadName" "name" && (oneB K "BadNumber" "value" && (oneB K "BadRing" "value" && (oneB K "BadText" "text" && (oneB K "Barred" "value" && (oneB K "DuplicateName" "name" && (oneB K "NoWhole" "value" && (one0B K "NotBarred" && (one0B K "NothingToUndo" && (oneB K "Shut" "value" && (oneB K "UnknownName" "name" && (one0B K "UnlikeLayouts" && (efB K errs_count "count" && (efB K errs_name "name" && (efB K errs_text "text" && (efB K errs_value "value" && (ivB K errs02 "AllDrawn" && (ivB K errs02 "BadCell" && (ivB K errs02 "BadCount" && (ivB K errs02 "BadLimits" && (ivB K errs02 "BadName" && (ivB K errs02 "BadNumber" && (ivB K errs02 "BadRing" && (ivB K errs02 "BadText" && (ivB K errs02 "Barred" && (ivB K errs02 "DuplicateName" && (ivB K errs02 "MixError" && (ivB K errs02 "NoWhole" && (ivB K errs02 "NotBarred" && (ivB K errs02 "NothingToUndo" && (ivB K errs02 "Shut" && (ivB K errs02 "UnknownName" && (ivB K errs02 "UnlikeLayouts" && (ivB K errs02 "ValueError" && (sysB K && (true))))))))))))))))))))))))))))))))))))))))
end K02
set_option maxHeartbeats 0
namespace K02
open PySem PySem.Spec PyProof.Rows L2 WM
def ads : List Addr := ([1, 2, 3, 6, 4, 24, 44, 63, 82, 101, 120, 139, 158, 177, 196, 215, 234, 253, 272, 291, 310, 329, 336, 343, 350, 357, 364, 371, 378, 383, 390, 0, 23, 43, 62, 81, 100, 119, 138, 157] : List Nat) ++ ([176, 195, 214, 233, 252, 271, 290, 309, 328, 335, 342, 349, 356, 363, 370, 377, 382, 389, 22, 25, 41, 42, 60, 61, 79, 80, 98, 99, 117, 118, 136, 137, 155, 156, 174, 175, 193, 194, 212, 213] : List Nat) ++ ([231, 232, 250, 251, 269, 270, 288, 289, 307, 308, 326, 327, 332, 333, 334, 337, 338, 339, 340, 341, 344, 345, 346, 347, 348, 351, 352, 353, 354, 355, 358, 359, 360, 361, 362, 365, 366, 367, 368, 369] : List Nat) ++ ([372, 373, 374, 375, 376, 379, 380, 381, 384, 385, 386, 387, 388, 40, 59, 78, 97, 116, 135, 154, 173, 192, 211, 230, 249, 268, 287, 306, 325, 35, 36, 37, 38, 39, 54, 55, 56, 57, 58, 73] : List Nat) ++ ([74, 75, 76, 77, 92, 93, 94, 95, 96, 111, 112, 113, 114, 115, 130, 131, 132, 133, 134, 149, 150, 151, 152, 153, 168, 169, 170, 171, 172, 187, 188, 189, 190, 191, 206, 207, 208, 209, 210, 225] : List Nat) ++ ([226, 227, 228, 229, 244, 245, 246, 247, 248, 263, 264, 265, 266, 267, 282, 283, 284, 285, 286, 301, 302, 303, 304, 305, 320, 321, 322, 323, 324] : List Nat)
def loose : List Str := (["__name__", "MixError", "BadName", "DuplicateName", "UnknownName", "BadCount", "BadText", "BadCell", "BadNumber", "BadLimits", "BadRing", "Barred", "NotBarred", "NoWhole", "UnlikeLayouts", "AllDrawn", "Shut", "NothingToUndo", "_law_start", "_law_draw"] : List Str) ++ (["_law_thing", "_law_made", "_law_named", "_law_field", "_law_kinds", "_law_stands"] : List Str)
abbrev R : PySem.W.OpenRow := PySem.W.OpenLaw.row PySem.Challenge.rw_wholemixes_k02_errors
abbrev hk : PySem.W.Hook := hookL ads fa fn ex
def ob (s : PySem.W.SharedT) : AlM := obsL ads fa fn ex (HandSHeadRun.getT s)
theorem ob_eq (s : PySem.W.SharedT) : ob s = hk.obs s.abs := obsL_eq (HandSHeadRun.getT_eq s)
theorem run (w : World) : HandSHeadRun.RunEq R (PySem.W.view R.prog [27]) hk ob 20000 loose w := by
  intro os
  kernel_rfl
end K02
set_option maxHeartbeats 1000000
namespace WM
open PySem PySem.Spec PyProof.Rows L2
abbrev Cell := Str × Str
def encC (c : Cell) : D := .tup [.str c.1, .str c.2]
abbrev stD (l : List Str) : List D := l.map D.str
abbrev cellsD (l : List Cell) : List D := l.map encC
def grid (ps ts : List Str) : List Cell := ps.flatMap fun p => ts.map fun t => (p, t)
/-- people, things, further groups -/
structure Plan where
  ps : List Str
  ts : List Str
  gs : List (Str × List Cell)
def Plan.table (p : Plan) : List (Str × List Cell) := p.ps.map (fun x => (x, p.ts.map fun t => (x, t))) ++ p.ts.map (fun t => (t, p.ps.map fun x => (x, t))) ++ p.gs
def encTab (mk : List D → D) (tb : List (Str × List Cell)) : D := .dct false (tb.map fun g => (.str g.1, mk (cellsD g.2)))
def Plan.lay (p : Plan) : D := .ins "Layout" [("all_people", .tup (stD p.ps)), ("all_things", .tup (stD p.ts)), ("all_cells", .tup (cellsD (grid p.ps p.ts))), ("held", encTab .tup p.table)]
def Plan.names (p : Plan) : List Str := p.ps ++ p.ts ++ p.gs.map (·.1)
def sLe (a b : Str) : Bool := decide (a.cps.toList ≤ b.cps.toList)
def Srt (l : List Str) : Prop := l.Pairwise fun a b => sLe a b = true
def lowS : Str := "abcdefghijklmnopqrstuvwxyz"
def digS : Str := "0123456789"
def lowB (c : Nat) : Bool := decide (97 ≤ c) && decide (c ≤ 122)
def digB (c : Nat) : Bool := decide (48 ≤ c) && decide (c ≤ 57)
def headB : List Nat → Bool
  | c :: _ => lowB c
  | [] => false
def nameB (z : Str) : Bool := (decide (1 ≤ z.length) && decide (z.length ≤ 6)) && (headB z.cps.toList && z.cps.toList.all fun c => lowB c || digB c)
/-- a layout's plan as it is drawn -/
structure Plan.Ok (p : Plan) (most : Nat) : Prop where
  h2 : 2 ≤ p.ps.length
  h4 : p.ps.length ≤ 4
  w2 : 2 ≤ p.ts.length
  w4 : p.ts.length ≤ 4
  ar : p.ps.length * p.ts.length ≤ 12
  gl : p.gs.length ≤ most
  nd : p.names.Nodup
  nm : ∀ n ∈ p.names, nameB n = true
  sp : Srt p.ps
  st : Srt p.ts
  sg : Srt (p.gs.map (·.1))
  gc : ∀ g ∈ p.gs, g.2 ≠ [] ∧ g.2.Sublist (grid p.ps p.ts)
/-- a draw: the state's budget falls by one at most -/
def sp_l_draw : Spc := fun ds S Q _ => ∃ g T m, ds = [.cell 0, .int m] ∧ S = .st g :: T ∧ 1 ≤ g ∧ noSt T ∧ 0 < m ∧ m < 1073741824 ∧ ∀ (r : Int) (g' : Nat), 0 ≤ r → r < m → g ≤ g' + 1 → Q (.int r) (.st g' :: T)
def sp_l_start : Spc := dStart
theorem draw_imp {ds S Q X} (h : sp_l_draw ds S Q X) : dDraw ds S Q X := by
  obtain ⟨g, T, m, h1, rfl, hg, h2, h3, h4, q⟩ := h
  obtain ⟨g', rfl⟩ : ∃ g', g = g' + 1 := ⟨g - 1, by omega⟩
  exact ⟨g', T, m, h1, rfl, h2, h3, h4, fun r a b => q r g' a b (Nat.le_refl _)⟩
def SqS (d : D) (l : List Str) : Prop := d = .lst (stD l) ∨ d = .tup (stD l)
end WM
set_option maxHeartbeats 4000000
namespace WM
open PySem L2
end WM
set_option maxHeartbeats 1000000
namespace WM
open PySem PySem.Spec PyProof.Rows L2
theorem plain_enc (c : Cell) (n : Nat) : plain (n + 1) (encC c) = true := by simp [encC, plain]
theorem eqv_enc (a b : Cell) : eqv (encC a) (encC b) = decide (a = b) := by
  simp [encC, eqv, eqvL]
  rw [Bool.eq_iff_iff]; simp [Prod.ext_iff]
theorem inL_enc (a : Cell) (l : List Cell) : inL (encC a) (l.map encC) = some (decide (a ∈ l)) := by
  unfold inL
  rw [guard_pos ⟨plain_enc a 7, fun d hd => by obtain ⟨c, _, rfl⟩ := List.mem_map.mp hd; exact plain_enc c 7⟩]
  simp only [Option.some.injEq, List.any_map]
  rw [Bool.eq_iff_iff, List.any_eq_true, decide_eq_true_iff]
  constructor
  · rintro ⟨x, hx, h⟩; rw [Function.comp, eqv_enc, decide_eq_true_iff] at h; rw [← h]; exact hx
  · intro h; exact ⟨a, h, by rw [Function.comp, eqv_enc]; simp⟩
theorem inL_str (a : Str) (l : List Str) : inL (.str a) (l.map .str) = some (decide (a ∈ l)) := by
  unfold inL
  rw [guard_pos ⟨rfl, fun d hd => by obtain ⟨c, _, rfl⟩ := List.mem_map.mp hd; rfl⟩]
  simp only [Option.some.injEq, List.any_map]
  rw [Bool.eq_iff_iff, List.any_eq_true, decide_eq_true_iff]
  constructor
  · rintro ⟨x, hx, h⟩
    have : x = a := by simpa [Function.comp, eqv] using h
    rw [← this]; exact hx
  · intro h; exact ⟨a, h, by simp [Function.comp, eqv]⟩
@[simp] theorem deref_enc (S : Store) (c : Cell) : deref S (encC c) = encC c := rfl
@[simp] theorem deref_lst (S : Store) (l : List D) : deref S (.lst l) = .lst l := rfl
@[simp] theorem deref_tup (S : Store) (l : List D) : deref S (.tup l) = .tup l := rfl
@[simp] theorem deref_str (S : Store) (l : Str) : deref S (.str l) = .str l := rfl
@[simp] theorem deref_int (S : Store) (l : Int) : deref S (.int l) = .int l := rfl
@[simp] theorem deref_bl (S : Store) (l : Bool) : deref S (.bl l) = .bl l := rfl
@[simp] theorem deref_non (S : Store) : deref S .non = .non := rfl
@[simp] theorem deref_dct (S : Store) (t : Bool) (l : List (D × D)) : deref S (.dct t l) = .dct t l := rfl
@[simp] theorem inW_cL (S : Store) (a : Cell) (l : List Cell) : inW S (encC a) (.lst (l.map encC)) = some (decide (a ∈ l)) := inL_enc a l
@[simp] theorem inW_cT (S : Store) (a : Cell) (l : List Cell) : inW S (encC a) (.tup (l.map encC)) = some (decide (a ∈ l)) := inL_enc a l
@[simp] theorem inW_sL (S : Store) (a : Str) (l : List Str) : inW S (.str a) (.lst (l.map .str)) = some (decide (a ∈ l)) := inL_str a l
@[simp] theorem inW_sT (S : Store) (a : Str) (l : List Str) : inW S (.str a) (.tup (l.map .str)) = some (decide (a ∈ l)) := inL_str a l
@[simp] theorem itemsV_lst (S : Store) (l : List D) : itemsV S (.lst l) = some l := rfl
@[simp] theorem itemsV_tup (S : Store) (l : List D) : itemsV S (.tup l) = some l := rfl
@[simp] theorem fLen_lst (S : Store) (l : List D) : fLen S [.lst l] = some (.int l.length) := rfl
@[simp] theorem fLen_tup (S : Store) (l : List D) : fLen S [.tup l] = some (.int l.length) := rfl
theorem eqvL_nil (l : List D) : eqvL l [] = l.isEmpty := by cases l <;> rfl
theorem eqF_nil {l : List D} (h : ∀ d ∈ l, plain 7 d = true) : eqF (.lst l) (.lst []) = some l.isEmpty := by
  unfold eqF
  rw [guard_pos ⟨by simpa [plain] using h, rfl⟩]
  simp [eqv, eqvL_nil]
theorem pl7_enc (l : List Cell) : ∀ d ∈ l.map encC, plain 7 d = true := fun d hd => by obtain ⟨c, _, rfl⟩ := List.mem_map.mp hd; exact plain_enc c 6
@[simp] theorem neW_cnil (S : Store) (l : List Cell) : neW S (.lst (l.map encC)) (.lst []) = some (!l.isEmpty) := by
  unfold neW; rw [deref_lst, deref_lst, eqF_nil (pl7_enc l)]; simp
@[simp] theorem eqW_cnil (S : Store) (l : List Cell) : eqW S (.lst (l.map encC)) (.lst []) = some l.isEmpty := by
  unfold eqW; simp only [deref_lst]; rw [eqF_nil (pl7_enc l)]; simp
@[simp] theorem ordW_int_lt (S : Store) (a b : Int) : ordW .lt S (.int a) (.int b) = some (decide (a < b)) := rfl
@[simp] theorem ordW_int_le (S : Store) (a b : Int) : ordW .le S (.int a) (.int b) = some (decide (a ≤ b)) := rfl
@[simp] theorem ordW_int_gt (S : Store) (a b : Int) : ordW .gt S (.int a) (.int b) = some (decide (b < a)) := rfl
@[simp] theorem ordW_int_ge (S : Store) (a b : Int) : ordW .ge S (.int a) (.int b) = some (decide (b ≤ a)) := rfl
@[simp] theorem cellOf_lst (l : List D) : cellOf (.lst l) = none := rfl
@[simp] theorem cellOf_tup (l : List D) : cellOf (.tup l) = none := rfl
theorem fin_id {m : Nat} {Q : QN} {d : D} {S : Store} (h : Q d S) : fin m Q d S := ⟨d, S, .refl, h⟩
theorem szl {n : Nat} (h : n ≤ 16777216) : n ≤ sizeLine := h
end WM
set_option maxHeartbeats 2000000
namespace WM
open PySem PySem.Spec PyProof.Rows L2
theorem inW_sign (S : Store) (c : Nat) (z : Str) : inW S (.str ⟨#[c]⟩) (.str z) = some (decide (c ∈ z.cps.toList)) := by
  have h : (!(Builtin.Str.occurrences z ⟨#[c]⟩ 0 z.length 1).isEmpty) = decide (c ∈ z.cps.toList) := PySem.StrLaws.found_one z c
  simp only [inW, deref_str, h]
theorem low_mem (c : Nat) : decide (c ∈ lowS.cps.toList) = lowB c := by
  have e : lowS.cps.toList = List.range' 97 26 := by decide +kernel
  rw [e, Bool.eq_iff_iff, decide_eq_true_iff, List.mem_range'_1]
  simp only [lowB, Bool.and_eq_true, decide_eq_true_eq]
  omega
theorem dig_mem (c : Nat) : decide (c ∈ digS.cps.toList) = digB c := by
  have e : digS.cps.toList = List.range' 48 10 := by decide +kernel
  rw [e, Bool.eq_iff_iff, decide_eq_true_iff, List.mem_range'_1]
  simp only [digB, Bool.and_eq_true, decide_eq_true_eq]
  omega
@[simp] theorem ninW_low (S : Store) (c : Nat) : ninW S (.str ⟨#[c]⟩) (.str "abcdefghijklmnopqrstuvwxyz") = some (!lowB c) := by
  unfold ninW; rw [inW_sign, ← low_mem]; rfl
@[simp] theorem ninW_dig (S : Store) (c : Nat) : ninW S (.str ⟨#[c]⟩) (.str "0123456789") = some (!digB c) := by
  unfold ninW; rw [inW_sign, ← dig_mem]; rfl
@[simp] theorem fLen_str {S : Store} {z : Str} (h : z.length ≤ 100000) : fLen S [.str z] = some (.int z.length) := by
  simp only [fLen, deref_str]; exact guard_pos (Nat.le_trans h (by decide))
theorem len_toList (z : Str) : z.cps.toList.length = z.length := by simp [Str.length]
theorem SqS.len {d : D} {l : List Str} (h : SqS d l) (S : Store) : fLen S [d] = some (.int l.length) := by
  rcases h with rfl | rfl <;> simp [fLen]
theorem SqS.cell {d : D} {l : List Str} (h : SqS d l) : cellOf d = none := by
  rcases h with rfl | rfl <;> rfl
@[simp] theorem mul_small (S : Store) {a b : Nat} (h : a ≤ 4000) : binop .mul S (.int a) (.int b) = some (.int (a * b)) := by
  simp only [binop, deref_int, intOp]
  rw [guard_pos (.inl ⟨by omega, by omega⟩)]; rfl
theorem eqF_int (a b : Int) : eqF (.int a) (.int b) = some (decide (a = b)) := by unfold eqF; rw [guard_pos ⟨rfl, rfl⟩]; rfl
theorem eqF_str (a b : Str) : eqF (.str a) (.str b) = some (decide (a = b)) := by
  unfold eqF; rw [guard_pos ⟨rfl, rfl⟩]
  exact congrArg some (show (a == b) = decide (a = b) by rw [Bool.eq_iff_iff]; simp)
@[simp] theorem neW_int (S : Store) (a b : Int) : neW S (.int a) (.int b) = some (!decide (a = b)) := by
  unfold neW; rw [deref_int, deref_int, eqF_int]; rfl
@[simp] theorem eqW_int (S : Store) (a b : Int) : eqW S (.int a) (.int b) = some (decide (a = b)) := by
  show eqF (.int a) (.int b) = _; exact eqF_int a b
@[simp] theorem eqW_str (S : Store) (a b : Str) : eqW S (.str a) (.str b) = some (decide (a = b)) := by
  show eqF (.str a) (.str b) = _; exact eqF_str a b
@[simp] theorem insOf_ins (S : Store) (c : String) (fs : List (String × D)) : insOf S (.ins c fs) = some (c, fs) := rfl
theorem look_map {α : Type} (f : α → D) (n : Str) : ∀ l : List (Str × α), (l.map fun g => (D.str g.1, f g.2)).lookup (.str n) = (l.lookup n).map f
  | [] => rfl
  | (m, a) :: l => by
    simp only [List.map_cons, List.lookup_cons]
    by_cases e : n = m
    · subst e; simp
    · have h1 : (n == m) = false := by simpa using e
      have h2 : ((D.str n) == (D.str m)) = false := by simpa using e
      rw [h1, h2]; exact look_map f n l
theorem look_tab (mk : List D → D) (n : Str) (tb : List (Str × List Cell)) : (tb.map fun g => (D.str g.1, mk (cellsD g.2))).lookup (.str n) = (tb.lookup n).map fun cs => mk (cellsD cs) := look_map (fun cs => mk (cellsD cs)) n tb
@[simp] theorem inW_tab (S : Store) (mk : List D → D) (n : Str) (tb : List (Str × List Cell)) : inW S (.str n) (encTab mk tb) = some (tb.lookup n).isSome := by
  simp only [encTab, inW, deref_dct, look_tab]
  rw [guard_pos (show keyOk false (.str n) = true from rfl)]
  cases tb.lookup n <;> rfl
@[simp] theorem ix_tab (S : Store) (mk : List D → D) (n : Str) (tb : List (Str × List Cell)) : ixop S (encTab mk tb) (.str n) = (tb.lookup n).map fun cs => mk (cellsD cs) := by
  simp only [encTab, ixop, deref_dct, look_tab]
  rw [if_pos (show keyOk false (.str n) = true from rfl)]
theorem grid_len (ps ts : List Str) : (grid ps ts).length = ps.length * ts.length := by
  unfold grid
  induction ps with
  | nil => simp
  | cons p r ih => simp [List.flatMap_cons, ih, Nat.succ_mul]; omega
theorem Plan.Ok.len {p : Plan} {k : Nat} (h : p.Ok k) {g : Str × List Cell} (hg : g ∈ p.table) : g.2.length ≤ 12 := by
  have h4 := h.h4
  have w4 := h.w4
  simp only [Plan.table, List.mem_append, List.mem_map] at hg
  rcases hg with (⟨x, _, rfl⟩ | ⟨x, _, rfl⟩) | hg
  · simp; omega
  · simp; omega
  · have := (h.gc g hg).2.length_le
    rw [grid_len] at this
    have := h.ar
    omega
end WM
set_option maxHeartbeats 2000000
namespace WM
open PySem PySem.Spec PyProof.Rows L2
def bas (a b : List Str) (c : List Cell) : List (String × D) := [("all_people", .tup (stD a)), ("all_things", .tup (stD b)), ("all_cells", .tup (cellsD c))]
/-- the table of the cells of each name, under way -/
def tabK (tb : List (Str × List Cell)) : List (D × D) := tb.map fun g => (.str g.1, .tup (cellsD g.2))
def hAt (S0 : Store) (E : List Ob) : Nat := S0.length + (E.length + 1)
def St (S0 : Store) (E : List Ob) (a b : List Str) (cs : List Cell) (tb : List (Str × List Cell)) : Store := S0 ++ (.ins "Layout" (bas a b cs ++ [("held", .cell (hAt S0 E))]) :: (E ++ [.dct false (tabK tb)]))
section
variable {S0 : Store} {E : List Ob} {fu x y z : D}
def rows (a b : List Str) : List (Str × List Cell) := a.map fun n => (n, b.map fun t => (n, t))
end
end WM
set_option maxHeartbeats 2000000
namespace WM
open PySem PySem.Spec PyProof.Rows L2
end WM
set_option maxHeartbeats 2000000
namespace WM
open PySem PySem.Spec PyProof.Rows L2
abbrev tl (s : Str) : List Nat := s.cps.toList
theorem tl_app (a b : Str) : tl (a ++ b) = tl a ++ tl b := by show (a ++ b).cps.toList = _; rw [Str.cps_append, Array.toList_append]
theorem tl_len (a : Str) : (tl a).length = a.length := len_toList a
theorem add_str (S : Store) {a b : Str} (h : a.length + b.length ≤ 100000) : binop .add S (.str a) (.str b) = some (.str (a ++ b)) := by
  simp only [binop, deref_str, binS]
  exact guard_pos (Nat.le_trans h (by decide))
def numS (v : Nat) : Str := Str.ofString (toString (v : Int))
theorem fStr_num (S : Store) {v : Nat} (h : v < 127) : fStr S [.int v] = some (.str (numS v)) := by
  show guard _ _ = _
  refine guard_pos ?_
  have : ∀ v : Nat, v < 127 → ((v : Int).natAbs.log2 < 1920) := by decide +kernel
  exact this v h
theorem add_int (S : Store) (a b : Int) : binop .add S (.int a) (.int b) = some (.int (a + b)) := rfl
theorem rangeD0 (n : Nat) : rangeD 0 n = (List.range n).map fun i : Nat => D.int i := by
  unfold rangeD
  rw [show ((n : Int) - 0).toNat = n by omega]
  exact List.map_congr_left fun i _ => by rw [Int.zero_add]
end WM
set_option maxHeartbeats 2000000
namespace WM
open PySem PySem.Spec PyProof.Rows L2
end WM
set_option maxHeartbeats 1000000
namespace WM
open PySem PySem.Spec PyProof.Rows L2
abbrev errs : List String := ["BadName", "DuplicateName", "UnknownName", "BadCount", "BadText", "BadCell"]
theorem Plan.Ok.up {p : Plan} {a b : Nat} (h : p.Ok a) (ab : a ≤ b) : p.Ok b := { h with gl := Nat.le_trans h.gl ab }
end WM
set_option maxHeartbeats 1000000
namespace WM
open PySem PySem.Spec PyProof.Rows L2
def cellsAt (p : Plan) (n : Str) : List Cell := (p.table.lookup n).getD []
def Plan.drop (p : Plan) (n : Str) : Plan := { p with gs := p.gs.filter fun g => decide (g.1 ≠ n) }
end WM
set_option maxHeartbeats 4000000
namespace WM
open PySem L2
end WM
set_option maxHeartbeats 2000000
namespace WM
open PySem PySem.Spec PyProof.Rows L2
end WM
set_option maxHeartbeats 2000000
namespace WM
open PySem PySem.Spec PyProof.Rows L2
end WM
set_option maxHeartbeats 2000000
namespace WM
open PySem PySem.Spec PyProof.Rows L2
theorem len_app (a b : Str) : (a ++ b).length = a.length + b.length := by rw [← tl_len, tl_app, List.length_append, tl_len, tl_len]
theorem joinL_len (s : List Nat) : ∀ ls : List (List Nat), (TL.joinL s ls).length ≤ (ls.map List.length).sum + s.length * ls.length
  | [] => by simp [TL.joinL]
  | [p] => by simp [TL.joinL]
  | p :: q :: r => by
    have ih := joinL_len s (q :: r)
    have e : TL.joinL s (p :: q :: r) = p ++ (s ++ TL.joinL s (q :: r)) := rfl
    rw [e]
    simp only [List.length_append, List.map_cons, List.sum_cons, List.length_cons] at ih ⊢
    have : s.length * (r.length + 1 + 1) = s.length * (r.length + 1) + s.length := by rw [Nat.mul_succ]
    omega
theorem join_len (a : Str) (ts : List Str) : (Str.join a ts).length ≤ (ts.map Str.length).sum + a.length * ts.length := by
  rw [← tl_len, show tl (Str.join a ts) = _ from TL.tl_join a ts]
  have h := joinL_len (TL.tl a) (ts.map TL.tl)
  have e : ((ts.map TL.tl).map List.length) = ts.map Str.length := by
    rw [List.map_map]
    exact List.map_congr_left fun x _ => tl_len x
  rw [e, List.length_map, show (TL.tl a).length = a.length from tl_len a] at h
  exact h
theorem tuple_len (ts : List Str) (c : Nat) (h : ∀ t ∈ ts, t.length ≤ c) : (tupleText ts).length ≤ (c + 2) * ts.length + 3 := by
  unfold tupleText
  rw [len_app, len_app]
  have h1 := join_len ", " ts
  have h2 : (ts.map Str.length).sum ≤ c * ts.length := by
    clear h1
    induction ts with
    | nil => simp
    | cons x r ih =>
      have := ih fun t ht => h t (by simp [ht])
      have hx := h x (by simp)
      simp only [List.map_cons, List.sum_cons, List.length_cons]
      rw [Nat.mul_succ]; omega
  have h3 : (", " : Str).length = 2 := rfl
  have h4 : ("(" : Str).length = 1 := rfl
  have h5 : (Str.ofString (if ts.length == 1 then ",)" else ")" : String)).length ≤ 2 := by split <;> decide
  rw [h3] at h1
  have : (c + 2) * ts.length = c * ts.length + 2 * ts.length := Nat.add_mul ..
  have h6 : ("(" : Str).length = 1 := rfl
  omega
end WM
set_option maxHeartbeats 1000000
namespace WM
open PySem PySem.Spec PyProof.Rows L2
/-- a call that lets nothing out -/
def wCallN (sp : Spc) (w : WL) : WE := fun σ S Q X => w σ S (fun ds S1 => sp ds S1 Q noX) X
def wCat (a b : WE) : WL := fun σ S Q X => a σ S (fun x S1 => b σ S1 (fun y S2 => ∃ ds es, getL S2 x = some ds ∧ getL S2 y = some es ∧ ds.length + es.length ≤ sizeLine ∧ Q (ds ++ es) S2) X) X
def wSwap3 (i j l : Nat) (a b c : WE) : WS := fun σ S k => a σ S (fun x S1 => b σ S1 (fun y S2 => c σ S2 (fun z S3 => k.nx (((σ.set i (some x)).set j (some y)).set l (some z)) S3) (fun c fs S => k.ex c fs σ S)) (fun c fs S => k.ex c fs σ S)) (fun c fs S => k.ex c fs σ S)
end WM
set_option maxHeartbeats 1000000
namespace WM
open PySem PySem.Spec PyProof.Rows L2
def nA (ns : List Str) (i : Nat) : Str := ns.getD i ""
def cA (cs : List Cell) (i : Nat) : Cell := cs.getD i ("", "")
/-- a ring, by each group and each cell -/
structure RingP (p : Plan) (ns : List Str) (cs : List Cell) : Prop where
  le : ns.length = cs.length
  l3 : 3 ≤ ns.length
  od : ns.length % 2 = 1
  nd : ns.Nodup
  cd : cs.Nodup
  nm : ∀ n ∈ ns, n ∈ p.names
  cm : ∀ c ∈ cs, c ∈ grid p.ps p.ts
  at_ : ∀ i j, i < ns.length → j < ns.length → (cA cs i ∈ cellsAt p (nA ns j) ↔ (j = i ∨ j = (i + 1) % ns.length))
/-- the first of those that pass -/
def hdC (l : List Cell) : Cell := l.headD ("", "")
/-- values that are looked at -/
def VOk (v : D) : Prop := plain 9 v = true ∨ v = .dct false []
/-- as long as can be counted -/
def VLen (v : D) : Prop := ∀ ns b, v = .tup [.tup ns, b] → ns.length ≤ 100000
end WM
set_option maxHeartbeats 4000000
namespace WM
open PySem L2
end WM
set_option maxHeartbeats 2000000
namespace WM
open PySem PySem.Spec PyProof.Rows L2
end WM
set_option maxHeartbeats 2000000
namespace WM
open PySem PySem.Spec PyProof.Rows L2
end WM
set_option maxHeartbeats 2000000
namespace WM
open PySem PySem.Spec PyProof.Rows L2
def isTupB (v : D) : Bool := match v with
  | .tup _ => true
  | _ => false
theorem VOk.ty {v : D} (h : VOk v) (S : Store) : ∃ n, tyB S v = some n ∧ ["tuple"].any (isOf n) = isTupB v := by
  rcases h with h | rfl
  · cases v with
    | non => exact ⟨_, rfl, by decide⟩
    | bl b => exact ⟨_, rfl, (by decide : ["tuple"].any (isOf "bool") = false)⟩
    | int i => exact ⟨_, rfl, (by decide : ["tuple"].any (isOf "int") = false)⟩
    | str s => exact ⟨_, rfl, (by decide : ["tuple"].any (isOf "str") = false)⟩
    | tup l => exact ⟨_, rfl, (by decide : ["tuple"].any (isOf "tuple") = true)⟩
    | lst l => exact ⟨_, rfl, (by decide : ["tuple"].any (isOf "list") = false)⟩
    | dct t l => simp [plain] at h
    | ins c l => simp [plain] at h
    | cell k => simp [plain] at h
    | scr l => simp [plain] at h
    | fn l => simp [plain] at h
    | er c l => simp [plain] at h
  · exact ⟨_, rfl, (by decide : ["tuple"].any (isOf "dict") = false)⟩
theorem plain_up : ∀ {n : Nat} {d : D}, plain n d = true → plain (n + 1) d = true
  | n, .non, _ => by cases n <;> rfl
  | n, .bl _, _ => by cases n <;> rfl
  | n, .int _, _ => by cases n <;> rfl
  | n, .str _, _ => by cases n <;> rfl
  | n + 1, .tup ds, h => by
    simp only [plain, List.all_eq_true] at h ⊢
    exact fun x hx => plain_up (h x hx)
  | n + 1, .lst ds, h => by
    simp only [plain, List.all_eq_true] at h ⊢
    exact fun x hx => plain_up (h x hx)
  | 0, .tup _, h => by simp [plain] at h
  | 0, .lst _, h => by simp [plain] at h
  | n, .dct _ _, h => by cases n <;> simp [plain] at h
  | n, .ins _ _, h => by cases n <;> simp [plain] at h
  | n, .cell _, h => by cases n <;> simp [plain] at h
  | n, .scr _, h => by cases n <;> simp [plain] at h
  | n, .fn _, h => by cases n <;> simp [plain] at h
  | n, .er _ _, h => by cases n <;> simp [plain] at h
/-- what the first walk has seen -/
structure Pre (p : Plan) (ns cs : List D) (k : Nat) (nl : List Str) (cl : List Cell) : Prop where
  hn : ns.take k = stD nl
  hc : cs.take k = cellsD cl
  nd : nl.Nodup
  cd : cl.Nodup
  nm : ∀ n ∈ nl, n ∈ p.names
  cm : ∀ c ∈ cl, c ∈ grid p.ps p.ts
theorem Pre.nil {p : Plan} {ns cs : List D} : Pre p ns cs 0 [] [] := ⟨rfl, rfl, List.nodup_nil, List.nodup_nil, by simp, by simp⟩
theorem Pre.all {p : Plan} {ns cs : List D} {nl : List Str} {cl : List Cell} (h : Pre p ns cs ns.length nl cl) (e : ns.length = cs.length) : ns = stD nl ∧ cs = cellsD cl := by
  have h1 := h.hn; have h2 := h.hc
  rw [List.take_length] at h1
  rw [e, List.take_length] at h2
  exact ⟨h1, h2⟩
end WM
set_option maxHeartbeats 2000000
namespace WM
open PySem PySem.Spec PyProof.Rows L2
end WM
set_option maxHeartbeats 2000000
namespace WM
open PySem PySem.Spec PyProof.Rows L2
theorem add_lstD (S : Store) (a b : List D) (h : a.length + b.length ≤ 10000) : binop .add S (.lst a) (.lst b) = some (.lst (a ++ b)) := by
  simp only [binop, deref_lst, binS]
  exact guard_pos (Nat.le_trans h (by decide))
end WM
set_option maxHeartbeats 2000000
namespace WM
open PySem PySem.Spec PyProof.Rows L2
end WM
set_option maxHeartbeats 4000000
namespace WM
open PySem PySem.Spec PyProof.Rows L2
/-- small values -/
def sml : Nat → D → Bool
  | _, .non => true
  | _, .bl _ => true
  | _, .int i => decide (0 ≤ i ∧ i < 10)
  | _, .str s => decide (s.length ≤ 10) && s.cps.toList.all fun c => decide (c ≤ 122)
  | n + 1, .tup ds => decide (ds.length ≤ 16) && ds.all (sml n)
  | n + 1, .lst ds => decide (ds.length ≤ 16) && ds.all (sml n)
  | _, _ => false
def VS (v : D) : Prop := sml 3 v = true ∨ v = .dct false []
end WM
set_option maxHeartbeats 4000000
namespace WM
open PySem L2
end WM
set_option maxHeartbeats 4000000
namespace WM
open PySem PySem.Spec PyProof.Rows L2
/-- a draw -/
theorem draw_in {g : Nat} {T : Store} {m : Nat} {Q : QN} {X : QX} (hg : 1 ≤ g) (hT : noSt T) (hm : 0 < m) (hm2 : m ≤ 1000000) (q : ∀ (j : Nat) (g' : Nat), j < m → g ≤ g' + 1 → Q (.int j) (.st g' :: T)) : sp_l_draw [.cell 0, .int m] (.st g :: T) Q X := by
  refine ⟨g, T, m, rfl, rfl, hg, hT, by omega, by omega, fun r g' h0 h1 h2 => ?_⟩
  obtain ⟨j, rfl⟩ := Int.eq_ofNat_of_zero_le h0
  exact q j g' (by omega) h2
theorem sml_tup {n : Nat} {l : List D} : sml (n + 1) (.tup l) = true ↔ l.length ≤ 16 ∧ ∀ d ∈ l, sml n d = true := by simp [sml]
theorem sml_lst {n : Nat} {l : List D} : sml (n + 1) (.lst l) = true ↔ l.length ≤ 16 ∧ ∀ d ∈ l, sml n d = true := by simp [sml]
theorem sml_plain : ∀ {n : Nat} {d : D}, sml n d = true → plain n d = true
  | n, .non, _ => by cases n <;> rfl
  | n, .bl _, _ => by cases n <;> rfl
  | n, .int _, h => by cases n <;> rfl
  | n, .str _, h => by cases n <;> rfl
  | n + 1, .tup ds, h => by
    rw [sml_tup] at h
    simp only [plain, List.all_eq_true]
    exact fun x hx => sml_plain (h.2 x hx)
  | n + 1, .lst ds, h => by
    rw [sml_lst] at h
    simp only [plain, List.all_eq_true]
    exact fun x hx => sml_plain (h.2 x hx)
  | 0, .tup _, h => by simp [sml] at h
  | 0, .lst _, h => by simp [sml] at h
  | n, .dct _ _, h => by cases n <;> simp [sml] at h
  | n, .ins _ _, h => by cases n <;> simp [sml] at h
  | n, .cell _, h => by cases n <;> simp [sml] at h
  | n, .scr _, h => by cases n <;> simp [sml] at h
  | n, .fn _, h => by cases n <;> simp [sml] at h
  | n, .er _ _, h => by cases n <;> simp [sml] at h
theorem VS.ok {v : D} (h : VS v) : VOk v := by
  rcases h with h | h
  · exact .inl (plain_up (plain_up (plain_up (plain_up (plain_up (plain_up (sml_plain h)))))))
  · exact .inr h
theorem VS.len {v : D} (h : VS v) : VLen v := fun ns b e => by
  subst e
  rcases h with h | h
  · have := (sml_tup.mp h).2 (.tup ns) (by simp)
    have := (sml_tup.mp this).1
    omega
  · cases h
def bdd : Nat → Nat
  | 0 => 102
  | n + 1 => 16 * (bdd n + 2) + 3
structure Shw (n : Nat) (d : D) (pd : PyData) : Prop where
  py : ∀ m, n ≤ m → ∀ S, toPy m S d = some pd
  sh : pd.showable = true
  hd : pd.hasDict = false
  dp : pd.depth ≤ n
  ln : pd.shown.length ≤ bdd n
theorem textFrom_le (c : Nat) : ∀ (ts : List Str) (k : Nat) (acc : Str), (∀ t ∈ ts, t.length ≤ c) → (textFrom k acc ts).length ≤ acc.length + (c + 2) * ts.length
  | [], k, acc, _ => by simp [textFrom]
  | t :: ts, k, acc, h => by
    have ih := textFrom_le c ts (k + 1) (acc ++ (if k > 0 then ", " else "" : String) ++ t) fun u hu => h u (by simp [hu])
    have ht := h t (by simp)
    have e : (acc ++ (if k > 0 then ", " else "" : String) ++ t).length ≤ acc.length + 2 + t.length := by
      rw [strLen_append, strLen_append]
      have : (Str.ofString (if k > 0 then ", " else "" : String)).length ≤ 2 := by split <;> decide
      omega
    show (textFrom (k + 1) _ ts).length ≤ _
    rw [List.length_cons, Nat.mul_succ]
    omega
theorem list_len (ts : List Str) (c : Nat) (h : ∀ t ∈ ts, t.length ≤ c) : (listText ts).length ≤ (c + 2) * ts.length + 3 := by
  unfold listText
  rw [strLen_append]
  have := textFrom_le c ts 0 "[" h
  have h1 : ("[" : Str).length = 1 := rfl
  have h2 : ("]" : Str).length = 1 := rfl
  have h3 : (Str.ofString "]").length = 1 := rfl
  omega
theorem shw_all {n : Nat} (ih : ∀ d, sml n d = true → ∃ pd, Shw n d pd) : ∀ l : List D, (∀ d ∈ l, sml n d = true) → ∃ ps : List PyData, (∀ m, n ≤ m → ∀ S, l.mapM (toPy m S) = some ps) ∧ PyData.showableAll ps = true ∧ PyData.hasDictAll ps = false ∧ PyData.depthAll ps ≤ n ∧ (∀ t ∈ PyData.shownAll ps, t.length ≤ bdd n) ∧ (PyData.shownAll ps).length = l.length
  | [], _ => ⟨[], fun _ _ _ => by simp, rfl, rfl, Nat.zero_le _, by simp [PyData.shownAll], rfl⟩
  | d :: r, h => by
    obtain ⟨pd, a⟩ := ih d (h d (by simp))
    obtain ⟨ps, b1, b2, b3, b4, b5, b6⟩ := shw_all ih r fun x hx => h x (by simp [hx])
    refine ⟨pd :: ps, fun m hm S => ?_, ?_, ?_, ?_, ?_, ?_⟩
    · rw [List.mapM_cons, a.py m hm S, b1 m hm S]; rfl
    · simp [PyData.showableAll, a.sh, b2]
    · simp [PyData.hasDictAll, a.hd, b3]
    · simp only [PyData.depthAll]; have := a.dp; omega
    · intro t ht
      simp only [PyData.shownAll, List.mem_cons] at ht
      rcases ht with rfl | ht
      · exact a.ln
      · exact b5 t ht
    · simp [PyData.shownAll, b6]
theorem bdd_ge : ∀ n : Nat, 102 ≤ bdd n
  | 0 => Nat.le_refl _
  | n + 1 => by have := bdd_ge n; simp only [bdd]; omega
theorem shw : ∀ (n : Nat) (d : D), sml n d = true → ∃ pd, Shw n d pd
  | n, .non, _ => ⟨.none, fun m _ S => by cases m <;> rfl, rfl, rfl, Nat.zero_le _, Nat.le_trans (show _ ≤ 102 by decide) (bdd_ge n)⟩
  | n, .bl b, _ => ⟨.bool b, fun m _ S => by cases m <;> rfl, rfl, rfl, Nat.zero_le _, Nat.le_trans (show _ ≤ 102 by cases b <;> decide) (bdd_ge n)⟩
  | n, .int i, h => by
    have h' : 0 ≤ i ∧ i < 10 := by cases n <;> simpa [sml] using h
    have hb : 102 ≤ bdd n := bdd_ge n
    have hi : i = 0 ∨ i = 1 ∨ i = 2 ∨ i = 3 ∨ i = 4 ∨ i = 5 ∨ i = 6 ∨ i = 7 ∨ i = 8 ∨ i = 9 := by omega
    refine ⟨.int i, fun m _ S => by cases m <;> rfl, ?_, rfl, Nat.zero_le _, Nat.le_trans (show _ ≤ 102 from ?_) hb⟩
    · rcases hi with rfl | rfl | rfl | rfl | rfl | rfl | rfl | rfl | rfl | rfl <;> decide
    · rcases hi with rfl | rfl | rfl | rfl | rfl | rfl | rfl | rfl | rfl | rfl <;> decide
  | n, .str s, h => by
    have h' : s.length ≤ 10 ∧ ∀ c ∈ s.cps.toList, c ≤ 122 := by
      have h0 : (decide (s.length ≤ 10) && s.cps.toList.all fun c => decide (c ≤ 122)) = true := by cases n <;> exact h
      rw [Bool.and_eq_true, List.all_eq_true] at h0
      exact ⟨by simpa using h0.1, fun c hc => by simpa using h0.2 c hc⟩
    have hb : 102 ≤ bdd n := bdd_ge n
    refine ⟨.str s, fun m _ S => by cases m <;> rfl, rfl, rfl, Nat.zero_le _, Nat.le_trans ?_ hb⟩
    have : (reprText s).length ≤ 10 * s.length + 2 := StrLaws.reprText_len s fun c hc => Nat.lt_of_le_of_lt (h'.2 c hc) (by decide)
    show (reprText s).length ≤ 102
    omega
  | n + 1, .tup ds, h => by
    rw [sml_tup] at h
    obtain ⟨ps, b1, b2, b3, b4, b5, b6⟩ := shw_all (shw n) ds h.2
    refine ⟨.tuple ps, fun m hm S => ?_, b2, b3, ?_, ?_⟩
    · match m, hm with
      | m + 1, hm => show (ds.mapM (toPy m S)).map _ = _; rw [b1 m (by omega) S]; rfl
    · show PyData.depthAll ps + 1 ≤ n + 1; omega
    · have := tuple_len (PyData.shownAll ps) (bdd n) b5
      rw [b6] at this
      show (tupleText (PyData.shownAll ps)).length ≤ _
      have h2 := Nat.mul_le_mul_left (bdd n + 2) h.1
      simp only [bdd]; omega
  | n + 1, .lst ds, h => by
    rw [sml_lst] at h
    obtain ⟨ps, b1, b2, b3, b4, b5, b6⟩ := shw_all (shw n) ds h.2
    refine ⟨.list ps, fun m hm S => ?_, b2, b3, ?_, ?_⟩
    · match m, hm with
      | m + 1, hm => show (ds.mapM (toPy m S)).map _ = _; rw [b1 m (by omega) S]; rfl
    · show PyData.depthAll ps + 1 ≤ n + 1; omega
    · have := list_len (PyData.shownAll ps) (bdd n) b5
      rw [b6] at this
      show (listText (PyData.shownAll ps)).length ≤ _
      have h2 := Nat.mul_le_mul_left (bdd n + 2) h.1
      simp only [bdd]; omega
  | 0, .tup _, h => by simp [sml] at h
  | 0, .lst _, h => by simp [sml] at h
  | n, .dct _ _, h => by cases n <;> simp [sml] at h
  | n, .ins _ _, h => by cases n <;> simp [sml] at h
  | n, .cell _, h => by cases n <;> simp [sml] at h
  | n, .scr _, h => by cases n <;> simp [sml] at h
  | n, .fn _, h => by cases n <;> simp [sml] at h
  | n, .er _ _, h => by cases n <;> simp [sml] at h
theorem VS.repr {v : D} (h : VS v) : ∃ s : Str, ∀ S, fReprE S [v] = some (.str s) := by
  rcases h with h | rfl
  · obtain ⟨pd, a⟩ := shw 3 v h
    refine ⟨pd.shown, fun S => ?_⟩
    unfold fReprE
    rw [if_neg (by intro e; cases e; simp [sml] at h)]
    simp only [fRepr, a.py 9 (by decide) S, Option.bind_some]
    exact guard_pos ⟨a.sh, a.hd, by have := a.dp; omega, Nat.le_trans a.ln (by decide)⟩
  · exact ⟨"{}", fun S => by unfold fReprE; rw [if_pos rfl]⟩
end WM
set_option maxHeartbeats 4000000
namespace WM
open PySem PySem.Spec PyProof.Rows L2
end WM
set_option maxHeartbeats 4000000
namespace WM
open PySem L2
end WM
set_option maxHeartbeats 4000000
namespace WM
open PySem PySem.Spec PyProof.Rows L2
structure ShwD (n : Nat) (d : D) (L : Nat) (pd : PyData) : Prop where
  py : ∀ m, n ≤ m → ∀ S, toPyD m S d = some pd
  sh : pd.showable = true
  dp : pd.depth ≤ n
  ln : pd.shown.length ≤ L
theorem ShwD.up {n n' L L' : Nat} {d : D} {pd : PyData} (h : ShwD n d L pd) (h1 : n ≤ n') (h2 : L ≤ L') : ShwD n' d L' pd := ⟨fun m hm => h.py m (by omega), h.sh, Nat.le_trans h.dp h1, Nat.le_trans h.ln h2⟩
theorem shwD_all {n L : Nat} : ∀ l : List D, (∀ d ∈ l, ∃ pd, ShwD n d L pd) → ∃ ps : List PyData, (∀ m, n ≤ m → ∀ S, l.mapM (toPyD m S) = some ps) ∧ PyData.showableAll ps = true ∧ PyData.depthAll ps ≤ n ∧ (∀ t ∈ PyData.shownAll ps, t.length ≤ L) ∧ (PyData.shownAll ps).length = l.length
  | [], _ => ⟨[], fun _ _ _ => by simp, rfl, Nat.zero_le _, by simp [PyData.shownAll], rfl⟩
  | d :: r, h => by
    obtain ⟨pd, a⟩ := h d (by simp)
    obtain ⟨ps, b1, b2, b4, b5, b6⟩ := shwD_all r fun x hx => h x (by simp [hx])
    refine ⟨pd :: ps, fun m hm S => ?_, ?_, ?_, ?_, ?_⟩
    · rw [List.mapM_cons, a.py m hm S, b1 m hm S]; rfl
    · simp [PyData.showableAll, a.sh, b2]
    · simp only [PyData.depthAll]; have := a.dp; omega
    · intro t ht
      simp only [PyData.shownAll, List.mem_cons] at ht
      rcases ht with rfl | ht
      · exact a.ln
      · exact b5 t ht
    · simp [PyData.shownAll, b6]
theorem shwD_tup {n L c : Nat} {l : List D} (h : ∀ d ∈ l, ∃ pd, ShwD n d L pd) (hl : l.length ≤ c) : ∃ pd, ShwD (n + 1) (.tup l) ((L + 2) * c + 3) pd := by
  obtain ⟨ps, b1, b2, b4, b5, b6⟩ := shwD_all l h
  refine ⟨.tuple ps, fun m hm S => ?_, b2, ?_, ?_⟩
  · match m, hm with
    | m + 1, hm => show (l.mapM (toPyD m S)).map _ = _; rw [b1 m (by omega) S]; rfl
  · show PyData.depthAll ps + 1 ≤ n + 1; omega
  · have := tuple_len (PyData.shownAll ps) L b5
    rw [b6] at this
    show (tupleText (PyData.shownAll ps)).length ≤ _
    exact Nat.le_trans this (Nat.add_le_add_right (Nat.mul_le_mul_left _ hl) 3)
end WM
set_option maxHeartbeats 1000000
namespace WM
open PySem PySem.Spec PyProof.Rows L2
abbrev Bd := Int × Int
def parE (cs : List Cell) (w : Cell → Int) : List (D × D) := cs.map fun c => (encC c, .int (w c))
abbrev partsD (cs : List Cell) (w : Cell → Int) : D := .dct true (parE cs w)
abbrev Plan.cells (p : Plan) : List Cell := grid p.ps p.ts
def shrF (p : Plan) (u : Int) (w : Cell → Int) : List (String × D) := [("own_layout", p.lay), ("own_unit", .int u), ("own_parts", partsD p.cells w)]
def Plan.shr (p : Plan) (u : Int) (w : Cell → Int) : D := .ins "Shares" (shrF p u w)
abbrev CB := Cell × Bd
def CB.ok (x : CB) : Prop := x.2 = (0, 0) ∨ x.2 = (0, 1) ∨ x.2 = (1, 1)
end WM
set_option maxHeartbeats 4000000
namespace WM
open PySem L2
end WM
set_option maxHeartbeats 2000000
namespace WM
open PySem PySem.Spec PyProof.Rows L2
end WM
set_option maxHeartbeats 2000000
namespace WM
open PySem PySem.Spec PyProof.Rows L2
end WM
set_option maxHeartbeats 2000000
namespace WM
open PySem PySem.Spec PyProof.Rows L2
end WM
set_option maxHeartbeats 2000000
namespace WM
open PySem PySem.Spec PyProof.Rows L2
end WM
set_option maxHeartbeats 2000000
namespace WM
open PySem PySem.Spec PyProof.Rows L2
/-- cells of data -/
def TN (T : Store) : Prop := ∀ o ∈ T, o.refs = [] ∧ ∀ g, o ≠ .st g
theorem TN.nil : TN [] := fun _ h => (List.not_mem_nil h).elim
theorem TN.set {T : Store} (h : TN T) (i : Nat) {o : Ob} (h1 : o.refs = []) (h2 : ∀ g, o ≠ .st g) : TN (T.set i o) := fun x hx => by
  rcases List.mem_or_eq_of_mem_set hx with z | z
  · exact h x z
  · subst z; exact ⟨h1, h2⟩
theorem TN.wf {T : Store} (h : TN T) (g : Nat) : wf (.st g :: T) := fun o ho k hk => by
  rcases List.mem_cons.mp ho with e | ho
  · subst e; simp [Ob.refs] at hk
  · rw [(h o ho).1] at hk; cases hk
theorem TN.st {T : Store} (h : TN T) (g : Nat) {o : Ob} (ho : o ∈ Ob.st g :: T) (ne : o ≠ .st g) : o.refs = [] := (h o ((List.mem_cons.mp ho).resolve_left ne)).1
def rotL {α : Type} (l : List α) (k : Nat) : List α := l.drop k ++ l.take k
theorem rotL_get {α : Type} (l : List α) (d : α) {k i : Nat} (hk : k ≤ l.length) (hi : i < l.length) : (rotL l k).getD i d = l.getD (if i + k < l.length then i + k else i + k - l.length) d := by
  unfold rotL
  simp only [List.getD_eq_getElem?_getD]
  by_cases h : i + k < l.length
  · rw [if_pos h, List.getElem?_append_left (by rw [List.length_drop]; omega), List.getElem?_drop, Nat.add_comm]
  · rw [if_neg h, List.getElem?_append_right (by rw [List.length_drop]; omega), List.length_drop, List.getElem?_take_of_lt (by omega)]
    congr 2; omega
theorem mod_succ {i n : Nat} (h : i < n) : (i + 1) % n = if i + 1 = n then 0 else i + 1 := by
  by_cases e : i + 1 = n
  · rw [if_pos e, e, Nat.mod_self]
  · rw [if_neg e, Nat.mod_eq_of_lt (by omega)]
/-- cells one place on: no ring -/
theorem RingP.off {p : Plan} {ns : List Str} {cs : List Cell} (h : RingP p ns cs) : ¬ RingP p ns (rotL cs 1) := fun r => by
  have le := h.le; have l3 := h.l3
  have z := (r.at_ 0 0 (by omega) (by omega)).mpr (.inl rfl)
  have e1 : cA (rotL cs 1) 0 = cA cs (if 0 + 1 < cs.length then 0 + 1 else 0 + 1 - cs.length) := rotL_get _ _ (by omega) (by omega)
  rw [e1, if_pos (by omega), h.at_ _ _ (by omega) (by omega), mod_succ (by omega)] at z
  split at z <;> omega
end WM
set_option maxHeartbeats 1000000
namespace WM
open PySem PySem.Spec PyProof.Rows L2
def frD (ps ts : List Str) (z : D) : D := .tup [.lst (stD ps), .lst (stD ts), .lst (cellsD (grid ps ts)), z]
/-- a frame: people, things, all cells, further groups -/
abbrev Plan.fr (p : Plan) : D := frD p.ps p.ts (encTab .lst p.gs)
end WM
set_option maxHeartbeats 4000000
namespace WM
open PySem L2
end WM
set_option maxHeartbeats 2000000
namespace WM
open PySem PySem.Spec PyProof.Rows L2
end WM
set_option maxHeartbeats 2000000
namespace WM
open PySem PySem.Spec PyProof.Rows L2
end WM
set_option maxHeartbeats 2000000
namespace WM
open PySem PySem.Spec PyProof.Rows L2
end WM
set_option maxHeartbeats 2000000
namespace WM
open PySem PySem.Spec PyProof.Rows L2
end WM
set_option maxHeartbeats 1000000
namespace WM
open PySem PySem.Spec PyProof.Rows L2
end WM
set_option maxHeartbeats 4000000
namespace WM
open PySem L2
end WM
set_option maxHeartbeats 2000000
namespace WM
open PySem PySem.Spec PyProof.Rows L2
end WM
set_option maxHeartbeats 2000000
namespace WM
open PySem PySem.Spec PyProof.Rows L2
end WM
set_option maxHeartbeats 2000000
namespace WM
open PySem PySem.Spec PyProof.Rows L2
def leC (a b : Cell) : Bool := if a.1 = b.1 then sLe a.2 b.2 else sLe a.1 b.1
end WM
set_option maxHeartbeats 2000000
namespace WM
open PySem PySem.Spec PyProof.Rows L2
end WM
set_option maxHeartbeats 4000000
namespace WM
open PySem PySem.Spec PyProof.Rows L2
end WM
set_option maxHeartbeats 2000000
namespace WM
open PySem PySem.Spec PyProof.Rows L2
end WM
set_option maxHeartbeats 1000000
namespace WM
open PySem PySem.Spec PyProof.Rows L2
def wStrO (c : String) (sp : Spc) (a : WE) : WE := fun σ S Q X => a σ S (fun x S1 => (∃ fs, insOf S1 x = some (c, fs)) ∧ sp [x] S1 (fun r S2 => ∃ n : Str, r = .str n ∧ Q (.str n) S2) noX) X
def wDis0 : WE := fun _ S Q _ => Q (.dct false []) S
end WM
set_option maxHeartbeats 1000000
namespace WM
open PySem PySem.Spec PyProof.Rows L2
end WM
set_option maxHeartbeats 4000000
namespace WM
open PySem L2
end WM
set_option maxHeartbeats 2000000
namespace WM
open PySem PySem.Spec PyProof.Rows L2
end WM
set_option maxHeartbeats 4000000
namespace WM
open PySem PySem.Spec PyProof.Rows L2
end WM
set_option maxHeartbeats 2000000
namespace WM
open PySem PySem.Spec PyProof.Rows L2
end WM
set_option maxHeartbeats 1000000
namespace WM
open PySem PySem.Spec PyProof.Rows L2
/-- a row of texts at an address -/
abbrev Rw := Addr × List Str
section
variable {P : Program} {w : World} {A : Around} {E : Value → Shared → Prop} {s : Shared}
abbrev IsR (P : Program) (w : World) (h : Heap) (k : List Str) (a : Addr) : Prop := IsTupleKey (PySem.strKind P w) h k a
abbrev hR (P : Program) (w : World) (k : List Str) : Int := tupleKeyHash (PySem.strKind P w) k
def entR (P : Program) (w : World) (p : Rw) : Int × Value := (hR P w p.2, Value.ref p.1)
/-- the set at a has exactly these rows -/
structure TbR (P : Program) (w : World) (h : Heap) (a : Addr) (L : List Rw) (o : Obj) (es : Array (Int × Value)) (ep : Nat) (t : SetTable) : Prop where
  ob : h.get? a = some o
  ex : o.ExactSet
  dat : o.data = .set es ep t
  rows : es.toList = L.map (entR P w)
  tab : TabOk t (L.map fun p => hR P w p.2)
  nd : (L.map (·.2)).Nodup
  isr : ∀ p ∈ L, IsR P w h p.2 p.1
  led : w.params.followText "set-order" = true ∨ t.led = true
  room : L.length * 5 < t.mask * 3
  few : L.length < 64
variable {a : Addr} {L : List Rw} {o : Obj} {es : Array (Int × Value)} {ep : Nat} {t : SetTable}
theorem TbR.size (R : TbR P w s.heap a L o es ep t) : es.size = L.length := by
  simpa using congrArg List.length R.rows
theorem TbR.at (R : TbR P w s.heap a L o es ep t) {i : Nat} {p : Rw} (h : L[i]? = some p) : es[i]? = some (entR P w p) := by
  rw [← Array.getElem?_toList, R.rows, List.getElem?_map, h] <;> rfl
end
end WM
set_option maxHeartbeats 1000000
namespace WM
open PySem PySem.Spec PyProof.Rows L2
end WM
set_option maxHeartbeats 3200000
namespace WM
open PySem PySem.Spec PyProof.Rows L2
end WM
set_option maxHeartbeats 1000000
namespace WM
open PySem PySem.Spec PyProof.Rows L2
def unC : D → Option Cell
  | .tup [.str a, .str b] => some (a, b)
  | _ => none
/-- sorted(set(x)) -/
def fSetC (S : Store) (x : D) : Option (List D) := (getL S x).bind fun ds => (ds.mapM unC).bind fun l => if l.eraseDups.length < 60 then some (cellsD (l.eraseDups.mergeSort leC)) else none
def wSetC (w : WE) : WL := fun σ S Q X => w σ S (fun x S1 => ∃ es, fSetC S1 x = some es ∧ Q es S1) X
end WM
set_option maxHeartbeats 1000000
namespace WM
open PySem PySem.Spec PyProof.Rows L2
end WM
set_option maxHeartbeats 1000000
namespace WM
open PySem PySem.Spec PyProof.Rows L2
end WM
set_option maxHeartbeats 2000000
namespace WM
open PySem PySem.Spec PyProof.Rows L2
section
variable {X : Cx} {xi : Xi} {B : Bs} {W : WX} {tg : Expr} {e : Expr} {wa : WE} {p apos cpos pos : Pos}
def dT? (d : D) : Option (List (D × D)) := match d with
  | .dct true kvs => some kvs
  | _ => none
def wItemsT (a : WE) : WI := fun σ S Q X => a σ S (fun d S1 => ∃ l, dT? d = some l ∧ Q (l.map fun p => .tup [p.1, p.2]) none S1) X
def wListItemsT (a : WE) : WL := fun σ S Q X => a σ S (fun d S1 => ∃ k kvs, dctC S1 d = some (k, true, kvs) ∧ Q (itemsD kvs) S1) X
def wListT (w : WL) : WL := fun σ S Q X => w σ S (fun ds S1 => ∃ x kvs, ds = [x] ∧ deref S1 x = .dct true kvs ∧ Q (kvs.map (·.1)) S1) X
end
end WM
set_option maxHeartbeats 2000000
namespace WM
open PySem PySem.Spec PyProof.Rows L2
section
variable {X : Cx} {xi : Xi} {B : Bs} {W : WX} {e : Expr} {wa : WE} {p apos cpos pos : Pos}
def wListItemsR (a : WE) : WL := fun σ S Q X => a σ S (fun d S1 => ∃ kvs, deref S1 d = .dct false kvs ∧ Q (itemsD kvs) S1) X
end
end WM
set_option maxHeartbeats 1000000
namespace WM
open PySem PySem.Spec PyProof.Rows L2 L2H HotX
end WM
set_option maxHeartbeats 1000000
namespace WM
open PySem PySem.Spec PyProof PyProof.Rows L2
end WM
set_option maxHeartbeats 1000000
namespace WM
open PySem PySem.Spec PyProof.Rows L2
def wPut2L (o1 i1 o2 i2 e : WE) : WS := fun σ S k => e σ S (fun d S1 => ∃ d1 d2, d = .tup [d1, d2] ∧ o1 σ S1 (fun x S2 => i1 σ S2 (fun y S3 => ∃ n ds j m, lstC S3 x = some (n, ds) ∧ y = .int j ∧ ixN ds.length j = some m ∧
  o2 σ (S3.set n (.lst (ds.set m d1))) (fun x' S4 => i2 σ S4 (fun y' S5 => ∃ n' ds' j' m', lstC S5 x' = some (n', ds') ∧ y' = .int j' ∧ ixN ds'.length j' = some m' ∧ k.nx σ (S5.set n' (.lst (ds'.set m' d2)))) (fun c fs S => k.ex c fs σ S)) (fun c fs S => k.ex c fs σ S)) (fun c fs S => k.ex c fs σ S)) (fun c fs S => k.ex c fs σ S)) (fun c fs S => k.ex c fs σ S)
end WM
set_option maxHeartbeats 1000000
namespace WM
open PySem PySem.Spec PyProof.Rows L2
def IntQ (i : Int) : Prop := -(10 ^ 41) ≤ i ∧ i ≤ 10 ^ 41
def StrB (s : Str) : Prop := s.length ≤ 60 ∧ ∀ c ∈ s.cps.toList, c < 16 ^ 8
/-- what is drawn, as it stands in a store -/
inductive ThQ (S : Store) (n : Nat) : D → Prop
  | non : ThQ S n .non
  | bl (b : Bool) : ThQ S n (.bl b)
  | int (i : Int) (h : IntQ i) : ThQ S n (.int i)
  | str (s : Str) (h : StrB s) : ThQ S n (.str s)
  | nil : ThQ S n (.tup [])
  | pair (i : Int) (h : IntQ i) : ThQ S n (.tup [.int i, .str "a"])
  | lst (k : Nat) (l : List Int) (e : S[k]? = some (.lst (l.map .int))) (hl : l.length ≤ n + 1) (h : ∀ i ∈ l, IntQ i) : ThQ S n (.cell k)
  | dct (k : Nat) (l : List (Str × Int)) (e : S[k]? = some (.dct false (l.map fun p => (.str p.1, .int p.2)))) (hl : l.length ≤ n + 1) (h : ∀ p ∈ l, StrB p.1 ∧ IntQ p.2) : ThQ S n (.cell k)
  | deep (k : Nat) (l : List Int) (e : S[k]? = some (.lst (l.map .int))) (hl : l.length ≤ n + 1) (h : ∀ i ∈ l, IntQ i) : ThQ S n (.tup [.tup [.tup [.str "a", .str "b"]], .cell k])
def errN (w : Nat) : String := errs02.getD w ""
def fldN (w : Nat) : String := if w < 3 then "name" else if w = 3 then "count" else if w = 4 then "text" else "value"
def sp_l_thing : Spc := fun ds S Q _ => ∃ g T, ds = [.cell 0] ∧ S = .st g :: T ∧ 10 ≤ g ∧ noSt T ∧ ∀ v g' G, g ≤ g' + 2 → noSt G → wf (.st g' :: (T ++ G)) → (∀ k ∈ v.refs, k < T.length + 1 + G.length) → ThQ (.st g' :: (T ++ G)) 0 v → Q v (.st g' :: (T ++ G))
def sp_l_made : Spc := fun ds S Q _ => ∃ (w : Nat) (v : D), w < 12 ∧ ds = [.int w, v] ∧ Q (.er (errN w) [(fldN w, v)]) S
def sp_l_named : Spc := fun ds S Q _ => ∃ (w : Nat) (v : D), w < 12 ∧ ds = [.int w, v] ∧ Q (.er (errN w) [(fldN w, v)]) S
def sp_l_field : Spc := fun ds S Q _ => ∃ (w : Nat) (v : D), w < 12 ∧ ds = [.int w, .er (errN w) [(fldN w, v)]] ∧ Q v S
def sp_l_kinds : Spc := fun ds S Q _ => ∃ (c : String) (fs : List (String × D)), c ∈ errs02 ∧ ds = [.er c fs] ∧ Q (.lst (errs02.map fun k => .bl (kindE c k))) S
def sp_l_stands : Spc := fun ds S Q _ => ∃ (w : Nat) (fs : List (String × D)), w < 16 ∧ ds = [.er (errN w) fs, .int w] ∧ Q (.bl true) S
def sp_law : Spc := fun ds S Q _ => ∃ ns : List Int, ds = [.scr ns] ∧ S = [] ∧ ns.length ≤ 63 ∧ ∀ S1, Q (.bl true) S1
end WM
set_option maxHeartbeats 4000000
namespace WM
open PySem L2
abbrev n_l_thing : List Str := ["_law_state", "_law_number", "_law_some"]
def w_l_thing : WS :=
  (wSeq (wSet 1 (wCall sp_l_draw [] (wCons (wVar 0) (wCons (wOp (binop .pow) (wLit (.int 10)) (wLit (.int 6))) wNil))))
  (wSeq (wSet 2 (wFz (wLst (wCons (wVar 1) (wCons (wOp (binop .add) (wOp (binop .pow) (wLit (.int 10)) (wLit (.int 40))) (wVar 1)) (wCons (wOp (binop .add) (wLit (.str "a")) (wB fStr (wCons (wVar 1) wNil))) (wCons (wLit (.str "")) (wCons (wLit .non) (wCons (wLit (.bl true)) (wCons (wLit (.bl false)) (wCons (wCell (wLst (wCons (wVar 1) wNil))) (wCons (wCell (wLst wNil)) (wCons (wTup (wCons (wVar 1) (wCons (wLit (.str "a")) wNil))) (wCons (wTup wNil) (wCons (wDnew false) wNil)))))))))))))))
  (wRet (wOp ixop (wOp (binop .add) (wVar 2) (wFz (wLst (wCons (wDisp1C (wLit (.str "a")) (wVar 1)) (wCons (wTup (wCons (wTup (wCons (wTup (wCons (wLit (.str "a")) (wCons (wLit (.str "b")) wNil))) wNil)) (wCons (wCell (wLst wNil)) wNil))) (wCons (wNeg (wVar 1)) wNil)))))) (wCall sp_l_draw [] (wCons (wVar 0) (wCons (wLit (.int 15)) wNil)))))))
abbrev n_l_made : List Str := ["_law_way", "_law_thing_here", "_law_some"]
def w_l_made : WS :=
  (wSeq (wIf (wCm (ordW .lt) (wVar 0) (wLit (.int 3))) (wRet (wOp ixop (wFz (wLst (wCons (wMkE "BadName" "name" (wCons (wVar 1) wNil)) (wCons (wMkE "DuplicateName" "name" (wCons (wVar 1) wNil)) (wCons (wMkE "UnknownName" "name" (wCons (wVar 1) wNil)) wNil))))) (wVar 0))) wPass)
  (wSeq (wIf (wCm eqW (wVar 0) (wLit (.int 3))) (wRet (wMkE "BadCount" "count" (wCons (wVar 1) wNil))) wPass)
  (wSeq (wIf (wCm eqW (wVar 0) (wLit (.int 4))) (wRet (wMkE "BadText" "text" (wCons (wVar 1) wNil))) wPass)
  (wSeq (wSet 2 (wFz (wLst (wCons (wMkE "BadCell" "value" (wCons (wVar 1) wNil)) (wCons (wMkE "BadNumber" "value" (wCons (wVar 1) wNil)) (wCons (wMkE "BadLimits" "value" (wCons (wVar 1) wNil)) (wCons (wMkE "BadRing" "value" (wCons (wVar 1) wNil)) (wCons (wMkE "Barred" "value" (wCons (wVar 1) wNil)) (wCons (wMkE "NoWhole" "value" (wCons (wVar 1) wNil)) wNil)))))))))
  (wRet (wOp ixop (wOp (binop .add) (wVar 2) (wFz (wLst (wCons (wMkE "Shut" "value" (wCons (wVar 1) wNil)) wNil)))) (wOp (binop .sub) (wVar 0) (wLit (.int 5)))))))))
abbrev n_l_named : List Str := ["_law_way", "_law_thing_here", "_law_some"]
def w_l_named : WS :=
  (wSeq (wIf (wCm (ordW .lt) (wVar 0) (wLit (.int 3))) (wRet (wOp ixop (wFz (wLst (wCons (wMkE "BadName" "name" (wCons (wVar 1) wNil)) (wCons (wMkE "DuplicateName" "name" (wCons (wVar 1) wNil)) (wCons (wMkE "UnknownName" "name" (wCons (wVar 1) wNil)) wNil))))) (wVar 0))) wPass)
  (wSeq (wIf (wCm eqW (wVar 0) (wLit (.int 3))) (wRet (wMkE "BadCount" "count" (wCons (wVar 1) wNil))) wPass)
  (wSeq (wIf (wCm eqW (wVar 0) (wLit (.int 4))) (wRet (wMkE "BadText" "text" (wCons (wVar 1) wNil))) wPass)
  (wSeq (wSet 2 (wFz (wLst (wCons (wMkE "BadCell" "value" (wCons (wVar 1) wNil)) (wCons (wMkE "BadNumber" "value" (wCons (wVar 1) wNil)) (wCons (wMkE "BadLimits" "value" (wCons (wVar 1) wNil)) (wCons (wMkE "BadRing" "value" (wCons (wVar 1) wNil)) wNil)))))))
  (wRet (wOp ixop (wOp (binop .add) (wVar 2) (wFz (wLst (wCons (wMkE "Barred" "value" (wCons (wVar 1) wNil)) (wCons (wMkE "NoWhole" "value" (wCons (wVar 1) wNil)) (wCons (wMkE "Shut" "value" (wCons (wVar 1) wNil)) wNil)))))) (wOp (binop .sub) (wVar 0) (wLit (.int 5)))))))))
abbrev n_l_field : List Str := ["_law_way", "_law_e"]
def w_l_field : WS :=
  (wSeq (wIf (wCm (ordW .lt) (wVar 0) (wLit (.int 3))) (wRet (wEf errs_name "name" (wVar 1))) wPass)
  (wSeq (wIf (wCm eqW (wVar 0) (wLit (.int 3))) (wRet (wEf errs_count "count" (wVar 1))) wPass)
  (wSeq (wIf (wCm eqW (wVar 0) (wLit (.int 4))) (wRet (wEf errs_text "text" (wVar 1))) wPass)
  (wRet (wEf errs_value "value" (wVar 1))))))
abbrev n_l_kinds : List Str := ["_law_e", "_law_found"]
def w_l_kinds : WS :=
  (wSeq (wSet 1 (wFz (wLst (wCons (wIsV errs02 "BadName" (wVar 0)) (wCons (wIsV errs02 "DuplicateName" (wVar 0)) (wCons (wIsV errs02 "UnknownName" (wVar 0)) (wCons (wIsV errs02 "BadCount" (wVar 0)) wNil)))))))
  (wSeq (wSet 1 (wOp (binop .add) (wVar 1) (wFz (wLst (wCons (wIsV errs02 "BadText" (wVar 0)) (wCons (wIsV errs02 "BadCell" (wVar 0)) (wCons (wIsV errs02 "BadNumber" (wVar 0)) (wCons (wIsV errs02 "BadLimits" (wVar 0)) wNil))))))))
  (wSeq (wSet 1 (wOp (binop .add) (wVar 1) (wFz (wLst (wCons (wIsV errs02 "BadRing" (wVar 0)) (wCons (wIsV errs02 "Barred" (wVar 0)) (wCons (wIsV errs02 "NoWhole" (wVar 0)) (wCons (wIsV errs02 "Shut" (wVar 0)) wNil))))))))
  (wSeq (wSet 1 (wOp (binop .add) (wVar 1) (wFz (wLst (wCons (wIsV errs02 "NotBarred" (wVar 0)) (wCons (wIsV errs02 "UnlikeLayouts" (wVar 0)) (wCons (wIsV errs02 "AllDrawn" (wVar 0)) wNil)))))))
  (wRet (wOp (binop .add) (wVar 1) (wFz (wLst (wCons (wIsV errs02 "NothingToUndo" (wVar 0)) wNil)))))))))
abbrev n_l_stands : List Str := ["_law_e", "_law_way", "_law_k"]
def w_l_stands : WS :=
  (wSeq (wIf (wOr (wNot (wIs (wIsV errs02 "MixError" (wVar 0)))) (wNot (wIs (wIsV errs02 "ValueError" (wVar 0))))) (wRet (wLit (.bl false))) wPass)
  (wRet (wBl (wCm eqW (wCall sp_l_kinds [] (wCons (wVar 0) wNil)) (wFz (wComp [2] (bName 2) (wRange1 (wCons (wLit (.int 16)) wNil)) wYes (wBl (wCm eqW (wVar 2) (wVar 1)))))))))
abbrev n_law : List Str := ["_law_script", "_law_state", "_law_turn", "_law_way", "_law_thing_here", "_law_e"]
def w_law : WS :=
  (wSeq (wSet 1 (wCall sp_l_start [] (wCons (wVar 0) wNil)))
  (wSeq (wFor (bName 2) (wRange1 (wCons (wLit (.int 24)) wNil)) (wSeq (wSet 3 (wCall sp_l_draw [] (wCons (wVar 1) (wCons (wLit (.int 12)) wNil))))
  (wSeq (wSet 4 (wCall sp_l_thing [] (wCons (wVar 1) wNil)))
  (wFor (bName 5) (wVal (wFz (wLst (wCons (wCall sp_l_made [] (wCons (wVar 3) (wCons (wVar 4) wNil))) (wCons (wCall sp_l_named [] (wCons (wVar 3) (wCons (wVar 4) wNil))) wNil))))) (wSeq (wIf (wOr (wNot (wIs (wCall sp_l_stands [] (wCons (wVar 5) (wCons (wVar 3) wNil))))) (wCm neW (wB fReprD (wCons (wCall sp_l_field [] (wCons (wVar 3) (wCons (wVar 5) wNil))) wNil)) (wB fReprD (wCons (wVar 4) wNil)))) (wRet (wLit (.bl false))) wPass)
  (wSeq (wIf (wIs (wIsi ["list"] (wVar 4))) (wExpr (wBM isLst fApp (wVar 4) (wCons (wVar 3) wNil))) wPass)
  (wSeq (wIf (wIs (wIsi ["dict"] (wVar 4))) (wPut (wVar 4) (wOp (binop .add) (wLit (.str "z")) (wB fStr (wCons (wB fLen (wCons (wVar 4) wNil)) wNil))) (wVar 3)) wPass)
  (wSeq (wIf (wAnd (wIs (wIsi ["tuple"] (wVar 4))) (wCmX TopX (wSl (wVar 4) (wPt (wNeg (wLit (.int 1)))) wNo) (wTup (wCons (wFz (wLst wNil)) wNil)))) (wExpr (wBM isLst fApp (wOp ixop (wVar 4) (wNeg (wLit (.int 1)))) (wCons (wVar 3) wNil))) wPass)
  (wIf (wCm neW (wB fReprD (wCons (wCall sp_l_field [] (wCons (wVar 3) (wCons (wVar 5) wNil))) wNil)) (wB fReprD (wCons (wVar 4) wNil))) (wRet (wLit (.bl false))) wPass)))))))))
  (wSeq (wIf (wOr (wNot (wIs (wCall sp_l_stands [] (wCons (wMkE0 "NotBarred") (wCons (wLit (.int 12)) wNil))))) (wOr (wNot (wIs (wCall sp_l_stands [] (wCons (wMkE0 "UnlikeLayouts") (wCons (wLit (.int 13)) wNil))))) (wNot (wIs (wCall sp_l_stands [] (wCons (wMkE0 "AllDrawn") (wCons (wLit (.int 14)) wNil))))))) (wRet (wLit (.bl false))) wPass)
  (wRet (wCall sp_l_stands [] (wCons (wMkE0 "NothingToUndo") (wCons (wLit (.int 15)) wNil)))))))
end WM
set_option maxHeartbeats 4000000
namespace WM
open PySem PySem.Spec PyProof.Rows L2
theorem intQ_log {i : Int} (h : IntQ i) : i.natAbs.log2 < 1920 := by
  have h1 : i.natAbs ≤ 10 ^ 41 := by unfold IntQ at h; omega
  by_cases h0 : i.natAbs = 0
  · rw [h0]; decide
  · refine (Nat.log2_lt h0).mpr (Nat.lt_of_le_of_lt h1 ?_)
    exact Nat.lt_of_lt_of_le (show 10 ^ 41 < 2 ^ 200 by decide) (Nat.pow_le_pow_right (by decide) (by decide))
theorem shwD_int {i : Int} (h : IntQ i) : ShwD 0 (.int i) 1921 (.int i) := ⟨fun m _ S => by cases m <;> rfl, decide_eq_true (intQ_log h), Nat.le_refl _, PyProof.Rows.int_text_len_1921 (intQ_log h)⟩
theorem shwD_str {s : Str} (h : StrB s) : ShwD 0 (.str s) 602 (.str s) := ⟨fun m _ S => by cases m <;> rfl, rfl, Nat.le_refl _, by
  have := StrLaws.reprText_len s h.2
  have := h.1
  show (reprText s).length ≤ 602
  omega⟩
theorem strB_of (t : String) (h : (Str.ofString t).length ≤ 60) : StrB (Str.ofString t) := ⟨h, fun c hc => by
  rw [Str.ofString_eq_toList] at hc
  simp only [List.mem_map] at hc
  obtain ⟨x, _, rfl⟩ := hc
  exact x.val.toNat_lt⟩
theorem fits_of {S : Store} {v : D} {pd : PyData} (h : toPyD 30 S v = some pd) (h1 : pd.showable = true) (h2 : pd.depth ≤ 40) (h3 : pd.shown.length ≤ 1000000) : ∃ s : Str, fReprD S [v] = some (.str s) := by
  refine ⟨pd.shown, ?_⟩
  show (toPyD 30 S v).bind _ = _
  rw [h, Option.bind_some]
  exact guard_pos ⟨h1, h2, h3⟩
theorem fits_D {S : Store} {v : D} {n L : Nat} (h : ∃ pd, ShwD n v L pd) (hn : n ≤ 30) (hL : L ≤ 1000000) : ∃ s : Str, fReprD S [v] = some (.str s) := by
  obtain ⟨pd, a⟩ := h
  exact fits_of (a.py 30 hn S) a.sh (by have := a.dp; omega) (Nat.le_trans a.ln hL)
theorem ints_py {l : List Int} (h : ∀ i ∈ l, IntQ i) : ∃ ps : List PyData, (∀ m S, (l.map D.int).mapM (toPyD m S) = some ps) ∧ PyData.showableAll ps = true ∧ PyData.depthAll ps ≤ 0 ∧ (listText (PyData.shownAll ps)).length ≤ 1923 * l.length + 3 := by
  obtain ⟨ps, b1, b2, b4, b5, b6⟩ := shwD_all (n := 0) (L := 1921) (l.map D.int) fun d hd => by
    obtain ⟨i, hi, rfl⟩ := List.mem_map.mp hd
    exact ⟨_, shwD_int (h i hi)⟩
  refine ⟨ps, fun m S => b1 m (Nat.zero_le _) S, b2, b4, ?_⟩
  have := textFrom_le 1921 (PyData.shownAll ps) 0 "[" b5
  rw [b6, List.length_map] at this
  unfold listText
  rw [strLen_append]
  have e1 : (Str.ofString "[").length = 1 := by decide
  have e2 : (Str.ofString "]").length = 1 := by decide
  omega
theorem kvs_py {l : List (Str × Int)} (h : ∀ p ∈ l, StrB p.1 ∧ IntQ p.2) : ∃ ps : List (PyData × PyData), (∀ m S, (l.map fun p => (D.str p.1, D.int p.2)).mapM (fun p => (keyPy p.1).bind fun k => (toPyD m S p.2).map fun v => (k, v)) = some ps) ∧ PyData.showableKv ps = true ∧ (PyData.dict ps).depth ≤ 1 ∧ (((PyData.shownKv ps).map fun x => x.length).sum ≤ 2600 * l.length) ∧ (PyData.shownKv ps).length = l.length := by
  induction l with
  | nil => exact ⟨[], fun _ _ => by simp, rfl, by decide, by simp [PyData.shownKv], rfl⟩
  | cons p l ih =>
    obtain ⟨ps, b1, b2, b3, b4, b5⟩ := ih fun x hx => h x (by simp [hx])
    obtain ⟨h1, h2⟩ := h p (by simp)
    have e1 := shwD_str h1
    have e2 := shwD_int h2
    refine ⟨(.str p.1, .int p.2) :: ps, fun m S => ?_, ?_, ?_, ?_, ?_⟩
    · rw [List.map_cons, List.mapM_cons, b1 m S]
      show (((keyPy (.str p.1)).bind fun k => (toPyD m S (.int p.2)).map fun v => (k, v)) >>= _) = _
      rw [e2.py m (Nat.zero_le _) S]; rfl
    · show (PyData.showable (.str p.1) && PyData.showable (.int p.2) && PyData.showableKv ps) = true
      rw [e1.sh, e2.sh, b2]; rfl
    · have b3' : PyData.depthKv ps + 1 ≤ 1 := b3
      show max (max 0 0) (PyData.depthKv ps) + 1 ≤ 1
      omega
    · show (((PyData.shown (.str p.1) ++ (": " : Str) ++ PyData.shown (.int p.2)) :: PyData.shownKv ps).map fun x => x.length).sum ≤ _
      rw [List.map_cons, List.sum_cons, strLen_append, strLen_append, List.length_cons]
      have := e1.ln
      have := e2.ln
      have e3 : (Str.ofString ": ").length = 2 := by decide
      omega
    · show (PyData.shownKv ps).length + 1 = _
      rw [b5]; rfl
theorem ThQ.repr {S : Store} {n : Nat} {v : D} (h : ThQ S n v) (hn : n ≤ 8) : ∃ s : Str, fReprD S [v] = some (.str s) := by
  have key : ∀ l : List D, l.length ≤ 2 → (∀ d ∈ l, ∃ pd, ShwD 0 d 1921 pd) → ∃ s : Str, fReprD S [.tup l] = some (.str s) := fun l hl h => by
    refine fits_D (shwD_tup (c := 2) h hl) (by decide) (by decide)
  cases h with
  | non => exact fits_D ⟨.none, fun m _ S => by cases m <;> rfl, rfl, Nat.le_refl _, (by decide : _ ≤ 10)⟩ (by decide) (by decide)
  | bl b => exact fits_D (n := 0) (L := 10) ⟨.bool b, fun m _ S => by cases m <;> rfl, rfl, Nat.le_refl _, (show _ ≤ 10 by cases b <;> decide)⟩ (Nat.zero_le _) (by decide)
  | int i h => exact fits_D ⟨_, shwD_int h⟩ (by decide) (by decide)
  | str s h => exact fits_D ⟨_, shwD_str h⟩ (by decide) (by decide)
  | nil => exact key [] (by decide) (by simp)
  | pair i h => 
    refine key _ (Nat.le_refl 2) fun d hd => ?_
    simp only [List.mem_cons, List.not_mem_nil, or_false] at hd
    rcases hd with rfl | rfl
    · exact ⟨_, shwD_int h⟩
    · exact ⟨_, (shwD_str (strB_of "a" (by decide))).up (Nat.le_refl _) (by decide)⟩
  | lst k l e hl h =>
    obtain ⟨ps, b1, b2, b4, b5⟩ := ints_py h
    refine fits_of (pd := .list ps) ?_ b2 ?_ ?_
    · simp only [toPyD, e]
      rw [b1 29 S]; rfl
    · show PyData.depthAll ps + 1 ≤ 40; omega
    · show (listText (PyData.shownAll ps)).length ≤ _; omega
  | dct k l e hl h =>
    obtain ⟨ps, b1, b2, b3, b4, b5⟩ := kvs_py h
    refine fits_of (pd := .dict ps) ?_ b2 (by omega) ?_
    · simp only [toPyD, e]
      rw [b1 29 S]; rfl
    · show (dictText (PyData.shownKv ps)).length ≤ _
      have := dictText_len_le (PyData.shownKv ps)
      omega
  | deep k l e hl h =>
    obtain ⟨ps, b1, b2, b4, b5⟩ := ints_py h
    obtain ⟨pa, a⟩ : ∃ pd, ShwD 1 (.tup [.str "a", .str "b"]) ((602 + 2) * 2 + 3) pd := shwD_tup (n := 0) (fun d hd => by
      simp only [List.mem_cons, List.not_mem_nil, or_false] at hd
      rcases hd with rfl | rfl
      · exact ⟨_, shwD_str (strB_of "a" (by decide))⟩
      · exact ⟨_, shwD_str (strB_of "b" (by decide))⟩) (by decide)
    obtain ⟨pb, b⟩ : ∃ pd, ShwD 2 (.tup [.tup [.str "a", .str "b"]]) (((602 + 2) * 2 + 3 + 2) * 1 + 3) pd := shwD_tup (n := 1) (fun d hd => by
      simp only [List.mem_cons, List.not_mem_nil, or_false] at hd
      subst hd
      exact ⟨_, a⟩) (by decide)
    refine fits_of (pd := .tuple [pb, .list ps]) ?_ ?_ ?_ ?_
    · show ([D.tup [.tup [.str "a", .str "b"]], .cell k].mapM (toPyD 29 S)).map _ = _
      rw [List.mapM_cons, b.py 29 (by decide) S, List.mapM_cons]
      have : toPyD 29 S (.cell k) = some (.list ps) := by
        simp only [toPyD, e]
        rw [b1 28 S]; rfl
      rw [this]; rfl
    · show PyData.showableAll [pb, .list ps] = true
      simp only [PyData.showableAll, b.sh, PyData.showable, b2]; rfl
    · show PyData.depthAll [pb, .list ps] + 1 ≤ 40
      have := b.dp
      simp only [PyData.depthAll, PyData.depth]; omega
    · show (tupleText [pb.shown, listText (PyData.shownAll ps)]).length ≤ _
      have := tupleText_len_le [pb.shown, listText (PyData.shownAll ps)]
      have := b.ln
      simp only [List.map_cons, List.map_nil, List.sum_cons, List.sum_nil, List.length_cons, List.length_nil] at *
      omega
end WM
set_option maxHeartbeats 4000000
namespace WM
open PySem PySem.Spec PyProof.Rows L2
theorem law_l_made (ds S Q X) (hw : wf S) (hr : ∀ k ∈ refsL ds, k < S.length) (h : sp_l_made ds S Q X) : w_l_made (envOf n_l_made.length ds) S (kt S.length Q X) := by
  obtain ⟨w, v, hw12, rfl, q⟩ := h
  simp only [w_l_made, wSeq, wSet, wExpr, wRet, wRetN, wPass, wBrk, wCont, wIf, wFor, wVar, wLit, wNil, wCons, wTup, wFz, wCell, wLst, wOp, wNeg, wCm, wBl, wChain, wNot, wAnd, wOr, wIs, wTr, wAndV, wOrV, wNotV, wIfe, wNo, wPt, wSl, wSlL, wTrL, wB, wBN, wBM, wBMN, wCall, wRaise, wAttr, wSetA, wPut, wPutL, wProp, wSwap, wUnp, bTupL, wUnpA, wIsi, wDnew, wSortS, wMeth, wAugI, wDel, wComp2, wEnumT, wDcomp, wDcopy, wDpop, wStar, wDisp1, wComp, wVal, wRange1, wRange2, wEnum, wItems, wVals, bName, bNil, bCons, bTup, wipeE, envOf, kt, on, List.map_cons, List.map_nil, List.cons_append, List.nil_append, List.append_nil, List.length_cons, List.length_nil, List.replicate_succ, List.replicate_zero, Nat.reduceAdd, Nat.reduceSub, Nat.zero_add, Nat.add_zero, List.getElem?_cons_succ, List.getElem?_cons_zero, List.set_cons_succ, List.set_cons_zero, Option.some.injEq, exists_eq_left', exists_eq_left, exists_eq_right, exists_eq_right', true_and, and_true, if_true, if_false, Bool.true_eq_false, Bool.false_eq_true, reduceIte, reduceCtorEq, D.int.injEq, D.str.injEq, D.bl.injEq, D.lst.injEq, D.tup.injEq, List.cons.injEq, and_self, exists_and_left, exists_const, and_assoc, Prod.mk.injEq, List.lookup_cons, String.reduceBEq, Bool.not_true, Bool.not_false, wSeal, wOpO, wListItems, wDictP, wCallK, wMakeK, wCallV, wCmX, wEqZ, wStrO, wDis0, wDispS, wMethK, wDclr, wItemsT, wListItemsT, wListT, wListItemsR, wSetC, wMakeC, wIsE, wPut2L, wEqR, wMkE, wMkE0, wEf, wIsV, wDisp1C, wInO, wEqO, wRevT, wRevL, wCallN, wSwap3, wMakeF, wCat, wIso, wGet1, wGet2, wChain3, wLenO, wZipM, wDcompT, wSortT, wNeO, wRaise0]
  have h12 : w = 0 ∨ w = 1 ∨ w = 2 ∨ w = 3 ∨ w = 4 ∨ w = 5 ∨ w = 6 ∨ w = 7 ∨ w = 8 ∨ w = 9 ∨ w = 10 ∨ w = 11 := by omega
  rcases h12 with rfl | rfl | rfl | rfl | rfl | rfl | rfl | rfl | rfl | rfl | rfl | rfl
  iterate 3
    refine ⟨true, rfl, ?_⟩
    rw [if_pos rfl]
    exact ⟨by decide, _, rfl, fin_id q⟩
  · refine ⟨false, rfl, ?_⟩
    rw [if_neg (by decide)]
    refine ⟨true, rfl, ?_⟩
    rw [if_pos rfl]
    exact fin_id q
  · refine ⟨false, rfl, ?_⟩
    rw [if_neg (by decide)]
    refine ⟨false, rfl, ?_⟩
    rw [if_neg (by decide)]
    refine ⟨true, rfl, ?_⟩
    rw [if_pos rfl]
    exact fin_id q
  all_goals
    refine ⟨false, rfl, ?_⟩
    rw [if_neg (by decide)]
    refine ⟨false, rfl, ?_⟩
    rw [if_neg (by decide)]
    refine ⟨false, rfl, ?_⟩
    rw [if_neg (by decide)]
    exact ⟨by decide, by decide, _, add_lstD _ _ _ (Nat.le_of_ble_eq_true rfl), _, rfl, _, rfl, fin_id q⟩
theorem law_l_named (ds S Q X) (hw : wf S) (hr : ∀ k ∈ refsL ds, k < S.length) (h : sp_l_named ds S Q X) : w_l_named (envOf n_l_named.length ds) S (kt S.length Q X) := by
  obtain ⟨w, v, hw12, rfl, q⟩ := h
  simp only [w_l_named, wSeq, wSet, wExpr, wRet, wRetN, wPass, wBrk, wCont, wIf, wFor, wVar, wLit, wNil, wCons, wTup, wFz, wCell, wLst, wOp, wNeg, wCm, wBl, wChain, wNot, wAnd, wOr, wIs, wTr, wAndV, wOrV, wNotV, wIfe, wNo, wPt, wSl, wSlL, wTrL, wB, wBN, wBM, wBMN, wCall, wRaise, wAttr, wSetA, wPut, wPutL, wProp, wSwap, wUnp, bTupL, wUnpA, wIsi, wDnew, wSortS, wMeth, wAugI, wDel, wComp2, wEnumT, wDcomp, wDcopy, wDpop, wStar, wDisp1, wComp, wVal, wRange1, wRange2, wEnum, wItems, wVals, bName, bNil, bCons, bTup, wipeE, envOf, kt, on, List.map_cons, List.map_nil, List.cons_append, List.nil_append, List.append_nil, List.length_cons, List.length_nil, List.replicate_succ, List.replicate_zero, Nat.reduceAdd, Nat.reduceSub, Nat.zero_add, Nat.add_zero, List.getElem?_cons_succ, List.getElem?_cons_zero, List.set_cons_succ, List.set_cons_zero, Option.some.injEq, exists_eq_left', exists_eq_left, exists_eq_right, exists_eq_right', true_and, and_true, if_true, if_false, Bool.true_eq_false, Bool.false_eq_true, reduceIte, reduceCtorEq, D.int.injEq, D.str.injEq, D.bl.injEq, D.lst.injEq, D.tup.injEq, List.cons.injEq, and_self, exists_and_left, exists_const, and_assoc, Prod.mk.injEq, List.lookup_cons, String.reduceBEq, Bool.not_true, Bool.not_false, wSeal, wOpO, wListItems, wDictP, wCallK, wMakeK, wCallV, wCmX, wEqZ, wStrO, wDis0, wDispS, wMethK, wDclr, wItemsT, wListItemsT, wListT, wListItemsR, wSetC, wMakeC, wIsE, wPut2L, wEqR, wMkE, wMkE0, wEf, wIsV, wDisp1C, wInO, wEqO, wRevT, wRevL, wCallN, wSwap3, wMakeF, wCat, wIso, wGet1, wGet2, wChain3, wLenO, wZipM, wDcompT, wSortT, wNeO, wRaise0]
  have h12 : w = 0 ∨ w = 1 ∨ w = 2 ∨ w = 3 ∨ w = 4 ∨ w = 5 ∨ w = 6 ∨ w = 7 ∨ w = 8 ∨ w = 9 ∨ w = 10 ∨ w = 11 := by omega
  rcases h12 with rfl | rfl | rfl | rfl | rfl | rfl | rfl | rfl | rfl | rfl | rfl | rfl
  iterate 3
    refine ⟨true, rfl, ?_⟩
    rw [if_pos rfl]
    exact ⟨by decide, _, rfl, fin_id q⟩
  · refine ⟨false, rfl, ?_⟩
    rw [if_neg (by decide)]
    refine ⟨true, rfl, ?_⟩
    rw [if_pos rfl]
    exact fin_id q
  · refine ⟨false, rfl, ?_⟩
    rw [if_neg (by decide)]
    refine ⟨false, rfl, ?_⟩
    rw [if_neg (by decide)]
    refine ⟨true, rfl, ?_⟩
    rw [if_pos rfl]
    exact fin_id q
  all_goals
    refine ⟨false, rfl, ?_⟩
    rw [if_neg (by decide)]
    refine ⟨false, rfl, ?_⟩
    rw [if_neg (by decide)]
    refine ⟨false, rfl, ?_⟩
    rw [if_neg (by decide)]
    exact ⟨by decide, by decide, _, add_lstD _ _ _ (Nat.le_of_ble_eq_true rfl), _, rfl, _, rfl, fin_id q⟩
theorem law_l_field (ds S Q X) (hw : wf S) (hr : ∀ k ∈ refsL ds, k < S.length) (h : sp_l_field ds S Q X) : w_l_field (envOf n_l_field.length ds) S (kt S.length Q X) := by
  obtain ⟨w, v, hw12, rfl, q⟩ := h
  simp only [w_l_field, wSeq, wSet, wExpr, wRet, wRetN, wPass, wBrk, wCont, wIf, wFor, wVar, wLit, wNil, wCons, wTup, wFz, wCell, wLst, wOp, wNeg, wCm, wBl, wChain, wNot, wAnd, wOr, wIs, wTr, wAndV, wOrV, wNotV, wIfe, wNo, wPt, wSl, wSlL, wTrL, wB, wBN, wBM, wBMN, wCall, wRaise, wAttr, wSetA, wPut, wPutL, wProp, wSwap, wUnp, bTupL, wUnpA, wIsi, wDnew, wSortS, wMeth, wAugI, wDel, wComp2, wEnumT, wDcomp, wDcopy, wDpop, wStar, wDisp1, wComp, wVal, wRange1, wRange2, wEnum, wItems, wVals, bName, bNil, bCons, bTup, wipeE, envOf, kt, on, List.map_cons, List.map_nil, List.cons_append, List.nil_append, List.append_nil, List.length_cons, List.length_nil, List.replicate_succ, List.replicate_zero, Nat.reduceAdd, Nat.reduceSub, Nat.zero_add, Nat.add_zero, List.getElem?_cons_succ, List.getElem?_cons_zero, List.set_cons_succ, List.set_cons_zero, Option.some.injEq, exists_eq_left', exists_eq_left, exists_eq_right, exists_eq_right', true_and, and_true, if_true, if_false, Bool.true_eq_false, Bool.false_eq_true, reduceIte, reduceCtorEq, D.int.injEq, D.str.injEq, D.bl.injEq, D.lst.injEq, D.tup.injEq, List.cons.injEq, and_self, exists_and_left, exists_const, and_assoc, Prod.mk.injEq, List.lookup_cons, String.reduceBEq, Bool.not_true, Bool.not_false, wSeal, wOpO, wListItems, wDictP, wCallK, wMakeK, wCallV, wCmX, wEqZ, wStrO, wDis0, wDispS, wMethK, wDclr, wItemsT, wListItemsT, wListT, wListItemsR, wSetC, wMakeC, wIsE, wPut2L, wEqR, wMkE, wMkE0, wEf, wIsV, wDisp1C, wInO, wEqO, wRevT, wRevL, wCallN, wSwap3, wMakeF, wCat, wIso, wGet1, wGet2, wChain3, wLenO, wZipM, wDcompT, wSortT, wNeO, wRaise0]
  have h12 : w = 0 ∨ w = 1 ∨ w = 2 ∨ w = 3 ∨ w = 4 ∨ w = 5 ∨ w = 6 ∨ w = 7 ∨ w = 8 ∨ w = 9 ∨ w = 10 ∨ w = 11 := by omega
  rcases h12 with rfl | rfl | rfl | rfl | rfl | rfl | rfl | rfl | rfl | rfl | rfl | rfl
  iterate 3
    refine ⟨true, rfl, ?_⟩
    rw [if_pos rfl]
    exact ⟨_, _, rfl, by decide, _, rfl, fin_id q⟩
  · refine ⟨false, rfl, ?_⟩
    rw [if_neg (by decide)]
    refine ⟨true, rfl, ?_⟩
    rw [if_pos rfl]
    exact ⟨_, _, rfl, by decide, _, rfl, fin_id q⟩
  · refine ⟨false, rfl, ?_⟩
    rw [if_neg (by decide)]
    refine ⟨false, rfl, ?_⟩
    rw [if_neg (by decide)]
    refine ⟨true, rfl, ?_⟩
    rw [if_pos rfl]
    exact ⟨_, _, rfl, by decide, _, rfl, fin_id q⟩
  all_goals
    refine ⟨false, rfl, ?_⟩
    rw [if_neg (by decide)]
    refine ⟨false, rfl, ?_⟩
    rw [if_neg (by decide)]
    refine ⟨false, rfl, ?_⟩
    rw [if_neg (by decide)]
    exact ⟨_, _, rfl, by decide, _, rfl, fin_id q⟩
theorem law_l_kinds (ds S Q X) (hw : wf S) (hr : ∀ k ∈ refsL ds, k < S.length) (h : sp_l_kinds ds S Q X) : w_l_kinds (envOf n_l_kinds.length ds) S (kt S.length Q X) := by
  obtain ⟨c, fs, hc, rfl, q⟩ := h
  simp only [w_l_kinds, wSeq, wSet, wExpr, wRet, wRetN, wPass, wBrk, wCont, wIf, wFor, wVar, wLit, wNil, wCons, wTup, wFz, wCell, wLst, wOp, wNeg, wCm, wBl, wChain, wNot, wAnd, wOr, wIs, wTr, wAndV, wOrV, wNotV, wIfe, wNo, wPt, wSl, wSlL, wTrL, wB, wBN, wBM, wBMN, wCall, wRaise, wAttr, wSetA, wPut, wPutL, wProp, wSwap, wUnp, bTupL, wUnpA, wIsi, wDnew, wSortS, wMeth, wAugI, wDel, wComp2, wEnumT, wDcomp, wDcopy, wDpop, wStar, wDisp1, wComp, wVal, wRange1, wRange2, wEnum, wItems, wVals, bName, bNil, bCons, bTup, wipeE, envOf, kt, on, List.map_cons, List.map_nil, List.cons_append, List.nil_append, List.append_nil, List.length_cons, List.length_nil, List.replicate_succ, List.replicate_zero, Nat.reduceAdd, Nat.reduceSub, Nat.zero_add, Nat.add_zero, List.getElem?_cons_succ, List.getElem?_cons_zero, List.set_cons_succ, List.set_cons_zero, Option.some.injEq, exists_eq_left', exists_eq_left, exists_eq_right, exists_eq_right', true_and, and_true, if_true, if_false, Bool.true_eq_false, Bool.false_eq_true, reduceIte, reduceCtorEq, D.int.injEq, D.str.injEq, D.bl.injEq, D.lst.injEq, D.tup.injEq, List.cons.injEq, and_self, exists_and_left, exists_const, and_assoc, Prod.mk.injEq, List.lookup_cons, String.reduceBEq, Bool.not_true, Bool.not_false, wSeal, wOpO, wListItems, wDictP, wCallK, wMakeK, wCallV, wCmX, wEqZ, wStrO, wDis0, wDispS, wMethK, wDclr, wItemsT, wListItemsT, wListT, wListItemsR, wSetC, wMakeC, wIsE, wPut2L, wEqR, wMkE, wMkE0, wEf, wIsV, wDisp1C, wInO, wEqO, wRevT, wRevL, wCallN, wSwap3, wMakeF, wCat, wIso, wGet1, wGet2, wChain3, wLenO, wZipM, wDcompT, wSortT, wNeO, wRaise0]
  iterate 4 refine ⟨c, fs, rfl, hc, ?_⟩
  refine ⟨by decide, ?_⟩
  iterate 4 refine ⟨c, fs, rfl, hc, ?_⟩
  refine ⟨by decide, _, add_lstD _ _ _ (Nat.le_of_ble_eq_true rfl), ?_⟩
  iterate 4 refine ⟨c, fs, rfl, hc, ?_⟩
  refine ⟨by decide, _, add_lstD _ _ _ (Nat.le_of_ble_eq_true rfl), ?_⟩
  iterate 3 refine ⟨c, fs, rfl, hc, ?_⟩
  refine ⟨by decide, _, add_lstD _ _ _ (Nat.le_of_ble_eq_true rfl), ?_⟩
  refine ⟨c, fs, rfl, hc, ?_⟩
  exact ⟨by decide, _, add_lstD _ _ _ (Nat.le_of_ble_eq_true rfl), fin_id q⟩
theorem errN_mem {w : Nat} (h : w < 16) : errN w ∈ errs02 := by
  have : ∀ w, w < 16 → errN w ∈ errs02 := by decide
  exact this w h
theorem kinds_eq {w : Nat} (h : w < 16) : (errs02.map fun k => D.bl (kindE (errN w) k)) = (List.range 16).map fun k : Nat => D.bl (decide ((k : Int) = (w : Int))) := by
  have : ∀ w, w < 16 → (errs02.map fun k => kindE (errN w) k) = (List.range 16).map fun k : Nat => decide ((k : Int) = (w : Int)) := by decide
  have := congrArg (List.map D.bl) (this w h)
  rw [List.map_map, List.map_map] at this
  exact this
theorem law_l_stands (ds S Q X) (hw : wf S) (hr : ∀ k ∈ refsL ds, k < S.length) (h : sp_l_stands ds S Q X) : w_l_stands (envOf n_l_stands.length ds) S (kt S.length Q X) := by
  obtain ⟨w, fs, hw16, rfl, q⟩ := h
  have hm := errN_mem hw16
  simp only [w_l_stands, wSeq, wSet, wExpr, wRet, wRetN, wPass, wBrk, wCont, wIf, wFor, wVar, wLit, wNil, wCons, wTup, wFz, wCell, wLst, wOp, wNeg, wCm, wBl, wChain, wNot, wAnd, wOr, wIs, wTr, wAndV, wOrV, wNotV, wIfe, wNo, wPt, wSl, wSlL, wTrL, wB, wBN, wBM, wBMN, wCall, wRaise, wAttr, wSetA, wPut, wPutL, wProp, wSwap, wUnp, bTupL, wUnpA, wIsi, wDnew, wSortS, wMeth, wAugI, wDel, wComp2, wEnumT, wDcomp, wDcopy, wDpop, wStar, wDisp1, wComp, wVal, wRange1, wRange2, wEnum, wItems, wVals, bName, bNil, bCons, bTup, wipeE, envOf, kt, on, List.map_cons, List.map_nil, List.cons_append, List.nil_append, List.append_nil, List.length_cons, List.length_nil, List.replicate_succ, List.replicate_zero, Nat.reduceAdd, Nat.reduceSub, Nat.zero_add, Nat.add_zero, List.getElem?_cons_succ, List.getElem?_cons_zero, List.set_cons_succ, List.set_cons_zero, Option.some.injEq, exists_eq_left', exists_eq_left, exists_eq_right, exists_eq_right', true_and, and_true, if_true, if_false, Bool.true_eq_false, Bool.false_eq_true, reduceIte, reduceCtorEq, D.int.injEq, D.str.injEq, D.bl.injEq, D.lst.injEq, D.tup.injEq, List.cons.injEq, and_self, exists_and_left, exists_const, and_assoc, Prod.mk.injEq, List.lookup_cons, String.reduceBEq, Bool.not_true, Bool.not_false, wSeal, wOpO, wListItems, wDictP, wCallK, wMakeK, wCallV, wCmX, wEqZ, wStrO, wDis0, wDispS, wMethK, wDclr, wItemsT, wListItemsT, wListT, wListItemsR, wSetC, wMakeC, wIsE, wPut2L, wEqR, wMkE, wMkE0, wEf, wIsV, wDisp1C, wInO, wEqO, wRevT, wRevL, wCallN, wSwap3, wMakeF, wCat, wIso, wGet1, wGet2, wChain3, wLenO, wZipM, wDcompT, wSortT, wNeO, wRaise0]
  have k1 : kindE (errN w) "MixError" = true := by unfold kindE; simp
  have k2 : kindE (errN w) "ValueError" = true := by unfold kindE; simp
  refine ⟨_, fs, rfl, hm, ?_⟩
  rw [k1, if_neg (by decide)]
  refine ⟨_, fs, rfl, hm, ?_⟩
  rw [k2, if_neg (by decide)]
  refine ⟨_, fs, hm, rfl, ⟨by decide, by decide⟩, by decide, ?_⟩
  rw [kinds_eq hw16, show rangeD 0 16 = (List.range 16).map fun i : Nat => D.int i from rangeD0 16]
  refine comp_all (List.range 16) (fun k : Nat => D.bl (decide ((k : Int) = (w : Int)))) (fun k hk Y hY => ?_) ?_
  · simp only [wSeq, wSet, wExpr, wRet, wRetN, wPass, wBrk, wCont, wIf, wFor, wVar, wLit, wNil, wCons, wTup, wFz, wCell, wLst, wOp, wNeg, wCm, wBl, wChain, wNot, wAnd, wOr, wIs, wTr, wAndV, wOrV, wNotV, wIfe, wNo, wPt, wSl, wSlL, wTrL, wB, wBN, wBM, wBMN, wCall, wRaise, wAttr, wSetA, wPut, wPutL, wProp, wSwap, wUnp, bTupL, wUnpA, wIsi, wDnew, wSortS, wMeth, wAugI, wDel, wComp2, wEnumT, wDcomp, wDcopy, wDpop, wStar, wDisp1, wComp, wVal, wRange1, wRange2, wEnum, wItems, wVals, bName, bNil, bCons, bTup, wipeE, envOf, kt, on, List.map_cons, List.map_nil, List.cons_append, List.nil_append, List.append_nil, List.length_cons, List.length_nil, List.replicate_succ, List.replicate_zero, Nat.reduceAdd, Nat.reduceSub, Nat.zero_add, Nat.add_zero, List.getElem?_cons_succ, List.getElem?_cons_zero, List.set_cons_succ, List.set_cons_zero, Option.some.injEq, exists_eq_left', exists_eq_left, exists_eq_right, exists_eq_right', true_and, and_true, if_true, if_false, Bool.true_eq_false, Bool.false_eq_true, reduceIte, reduceCtorEq, D.int.injEq, D.str.injEq, D.bl.injEq, D.lst.injEq, D.tup.injEq, List.cons.injEq, and_self, exists_and_left, exists_const, and_assoc, Prod.mk.injEq, List.lookup_cons, String.reduceBEq, Bool.not_true, Bool.not_false, wSeal, wOpO, wListItems, wDictP, wCallK, wMakeK, wCallV, wCmX, wEqZ, wStrO, wDis0, wDispS, wMethK, wDclr, wItemsT, wListItemsT, wListT, wListItemsR, wSetC, wMakeC, wIsE, wPut2L, wEqR, wMkE, wMkE0, wEf, wIsV, wDisp1C, wInO, wEqO, wRevT, wRevL, wCallN, wSwap3, wMakeF, wCat, wIso, wGet1, wGet2, wChain3, wLenO, wZipM, wDcompT, wSortT, wNeO, wRaise0]
    exact ⟨_, eqW_int _ _ _, hY⟩
  · refine ⟨true, ?_, fin_id q⟩
    show eqF _ _ = _
    unfold eqF
    have hp : ∀ l : List Bool, plain 8 (.lst (l.map D.bl)) = true := fun l => by simp [plain]
    have hl : (List.range 16).map (fun k : Nat => D.bl (decide ((k : Int) = (w : Int)))) = ((List.range 16).map fun k : Nat => decide ((k : Int) = (w : Int))).map D.bl := by rw [List.map_map]; rfl
    rw [hl]
    show guard (plain 8 (D.lst _) = true ∧ plain 8 (D.lst _) = true) (eqv (D.lst _) (D.lst _)) = _
    rw [guard_pos ⟨hp _, hp _⟩, eqv_refl (hp _)]
theorem wf_growE {g g' : Nat} {T G : Store} (hw : wf (.st g :: T)) (hG : ∀ o ∈ G, ∀ k ∈ o.refs, k < T.length + 1 + G.length) : wf (.st g' :: (T ++ G)) := by
  intro o ho k hk
  simp only [List.length_cons, List.length_append]
  rcases List.mem_cons.mp ho with rfl | ho
  · simp [Ob.refs] at hk
  · rcases List.mem_append.mp ho with ho | ho
    · have := hw o (List.mem_cons_of_mem _ ho) k hk
      simp at this; omega
    · have := hG o ho k hk; omega
theorem noSt_appE {T G : Store} (h1 : noSt T) (h2 : noSt G) : noSt (T ++ G) := fun o ho g => by
  rcases List.mem_append.mp ho with h | h
  · exact h1 o h g
  · exact h2 o h g
/-- what is made beside the drawn thing -/
def gar (j : Int) : Store := [.lst [.int j], .lst [], .dct false [], .dct false [(.str (Str.ofString "a"), .int j)], .lst []]
theorem gar_noSt (j : Int) : noSt (gar j) := fun o ho g => by
  simp only [gar, List.mem_cons, List.not_mem_nil, or_false] at ho
  rcases ho with rfl | rfl | rfl | rfl | rfl <;> simp
theorem gar_refs (j : Int) : ∀ o ∈ gar j, o.refs = [] := fun o ho => by
  simp only [gar, List.mem_cons, List.not_mem_nil, or_false] at ho
  rcases ho with rfl | rfl | rfl | rfl | rfl <;> simp [Ob.refs, refsL, refsP, D.refs]
theorem gar_at (a : Ob) (T : Store) (j : Int) (k : Nat) : (a :: (T ++ gar j) : Store)[T.length + 1 + k]? = (gar j)[k]? := by
  rw [show T.length + 1 + k = (T.length + k) + 1 by omega, List.getElem?_cons_succ, List.getElem?_append_right (by omega)]
  congr 1; omega
theorem law_l_thing (ds S Q X) (hw : wf S) (hr : ∀ k ∈ refsL ds, k < S.length) (h : sp_l_thing ds S Q X) : w_l_thing (envOf n_l_thing.length ds) S (kt S.length Q X) := by
  obtain ⟨g, T, rfl, rfl, hg, hT, q⟩ := h
  simp only [w_l_thing, wSeq, wSet, wExpr, wRet, wRetN, wPass, wBrk, wCont, wIf, wFor, wVar, wLit, wNil, wCons, wTup, wFz, wCell, wLst, wOp, wNeg, wCm, wBl, wChain, wNot, wAnd, wOr, wIs, wTr, wAndV, wOrV, wNotV, wIfe, wNo, wPt, wSl, wSlL, wTrL, wB, wBN, wBM, wBMN, wCall, wRaise, wAttr, wSetA, wPut, wPutL, wProp, wSwap, wUnp, bTupL, wUnpA, wIsi, wDnew, wSortS, wMeth, wAugI, wDel, wComp2, wEnumT, wDcomp, wDcopy, wDpop, wStar, wDisp1, wComp, wVal, wRange1, wRange2, wEnum, wItems, wVals, bName, bNil, bCons, bTup, wipeE, envOf, kt, on, List.map_cons, List.map_nil, List.cons_append, List.nil_append, List.append_nil, List.length_cons, List.length_nil, List.replicate_succ, List.replicate_zero, Nat.reduceAdd, Nat.reduceSub, Nat.zero_add, Nat.add_zero, List.getElem?_cons_succ, List.getElem?_cons_zero, List.set_cons_succ, List.set_cons_zero, Option.some.injEq, exists_eq_left', exists_eq_left, exists_eq_right, exists_eq_right', true_and, and_true, if_true, if_false, Bool.true_eq_false, Bool.false_eq_true, reduceIte, reduceCtorEq, D.int.injEq, D.str.injEq, D.bl.injEq, D.lst.injEq, D.tup.injEq, List.cons.injEq, and_self, exists_and_left, exists_const, and_assoc, Prod.mk.injEq, List.lookup_cons, String.reduceBEq, Bool.not_true, Bool.not_false, wSeal, wOpO, wListItems, wDictP, wCallK, wMakeK, wCallV, wCmX, wEqZ, wStrO, wDis0, wDispS, wMethK, wDclr, wItemsT, wListItemsT, wListT, wListItemsR, wSetC, wMakeC, wIsE, wPut2L, wEqR, wMkE, wMkE0, wEf, wIsV, wDisp1C, wInO, wEqO, wRevT, wRevL, wCallN, wSwap3, wMakeF, wCat, wIso, wGet1, wGet2, wChain3, wLenO, wZipM, wDcompT, wSortT, wNeO, wRaise0]
  refine ⟨.int 1000000, rfl, draw_in (m := 1000000) (by omega) hT (by decide) (by decide) fun j g1 hj hg1 => ?_⟩
  refine ⟨.int (10 ^ 40), rfl, _, add_int _ _ _, ?_⟩
  have hlog : ((j : Int)).natAbs.log2 < 1920 := intQ_log (i := (j : Int)) ⟨by omega, by omega⟩
  have hts : (Str.ofString (toString (j : Int))).length ≤ 20 := Nat.le_trans (PyProof.Rows.toString_length_le (k := 6) (by omega) (by decide) (by omega)) (by decide)
  refine ⟨_, guard_pos hlog, _, add_str _ (by have : (Str.ofString "a").length = 1 := by decide
                                              omega), by decide, by decide, by decide, by decide, by decide, rfl, by decide, by decide, by decide, by decide, j, rfl, by decide, ?_⟩
  refine ⟨_, add_lstD _ _ _ (Nat.le_of_ble_eq_true rfl), ?_⟩
  simp only [List.length_append, List.length_cons, List.length_nil]
  rw [show (Ob.st g1 :: T ++ [Ob.lst [D.int (j : Int)]] ++ [Ob.lst []] ++ [Ob.dct false []] ++ [Ob.dct false [(D.str (Str.ofString "a"), D.int (j : Int))]] ++ [Ob.lst []] : Store) = .st g1 :: (T ++ gar j) by simp [gar]]
  refine draw_in (m := 15) (by omega) (noSt_appE hT (gar_noSt _)) (by decide) (by decide) fun r g2 hr2 hg2 => ?_
  have hwf : wf (.st g2 :: (T ++ gar j)) := wf_growE hw fun o ho k hk => by rw [gar_refs _ o ho] at hk; cases hk
  have iq : IntQ (j : Int) := ⟨by omega, by omega⟩
  have at5 := fun k => gar_at (.st g2) T j k
  have fq : ∀ v : D, (∀ k ∈ v.refs, k < T.length + 1 + 5) → ThQ (.st g2 :: (T ++ gar j)) 0 v → fin (T.length + 1) Q v (.st g2 :: (T ++ gar j)) := fun v h1 h2 => fin_id (q v g2 (gar j) (by omega) (gar_noSt _) hwf h1 h2)
  have h15 : r = 0 ∨ r = 1 ∨ r = 2 ∨ r = 3 ∨ r = 4 ∨ r = 5 ∨ r = 6 ∨ r = 7 ∨ r = 8 ∨ r = 9 ∨ r = 10 ∨ r = 11 ∨ r = 12 ∨ r = 13 ∨ r = 14 := by omega
  rcases h15 with rfl | rfl | rfl | rfl | rfl | rfl | rfl | rfl | rfl | rfl | rfl | rfl | rfl | rfl | rfl
  · exact ⟨_, rfl, fq _ (by simp [D.refs]) (.int _ iq)⟩
  · exact ⟨_, rfl, fq _ (by simp [D.refs]) (.int _ ⟨by omega, by omega⟩)⟩
  · refine ⟨_, rfl, fq _ (by simp [D.refs]) (.str _ ⟨?_, fun c hc => ?_⟩)⟩
    · rw [strLen_append]
      have : (Str.ofString "a").length = 1 := by decide
      omega
    · have e : (Str.ofString "a" ++ Str.ofString (toString (j : Int)) : Str).cps.toList = (Str.ofString "a").cps.toList ++ (Str.ofString (toString (j : Int))).cps.toList := Array.toList_append
      rw [e] at hc
      rcases List.mem_append.mp hc with hc | hc
      · exact (strB_of "a" (by decide)).2 c hc
      · exact (strB_of (toString (j : Int)) (by omega)).2 c hc
  · exact ⟨_, rfl, fq _ (by simp [D.refs]) (.str _ (strB_of "" (by decide)))⟩
  · exact ⟨_, rfl, fq _ (by simp [D.refs]) .non⟩
  · exact ⟨_, rfl, fq _ (by simp [D.refs]) (.bl _)⟩
  · exact ⟨_, rfl, fq _ (by simp [D.refs]) (.bl _)⟩
  · exact ⟨_, rfl, fq _ (by simp [D.refs]) (.lst _ [(j : Int)] (at5 0) (Nat.le_refl 1) (by simpa using iq))⟩
  · exact ⟨_, rfl, fq _ (by simp [D.refs]) (.lst _ [] (at5 1) (by decide) (by simp))⟩
  · exact ⟨_, rfl, fq _ (by simp [D.refs, refsL]) (.pair _ iq)⟩
  · exact ⟨_, rfl, fq _ (by simp [D.refs, refsL]) .nil⟩
  · exact ⟨_, rfl, fq _ (by simp [D.refs]) (.dct _ [] (at5 2) (by decide) (by simp))⟩
  · exact ⟨_, rfl, fq _ (by simp [D.refs]) (.dct _ [(Str.ofString "a", (j : Int))] (at5 3) (Nat.le_refl 1) (by simpa using ⟨strB_of "a" (by decide), iq⟩))⟩
  · exact ⟨_, rfl, fq _ (by simp [D.refs, refsL]) (.deep _ [] (at5 4) (by decide) (by simp))⟩
  · exact ⟨_, rfl, fq _ (by simp [D.refs]) (.int _ ⟨by omega, by omega⟩)⟩
end WM
set_option maxHeartbeats 4000000
namespace WM
open PySem PySem.Spec PyProof.Rows L2
def s2E : WS := (wIf (wIs (wIsi ["list"] (wVar 4))) (wExpr (wBM isLst fApp (wVar 4) (wCons (wVar 3) wNil))) wPass)
def s3E : WS := (wIf (wIs (wIsi ["dict"] (wVar 4))) (wPut (wVar 4) (wOp (binop .add) (wLit (.str "z")) (wB fStr (wCons (wB fLen (wCons (wVar 4) wNil)) wNil))) (wVar 3)) wPass)
def s4E : WS := (wIf (wAnd (wIs (wIsi ["tuple"] (wVar 4))) (wCmX TopX (wSl (wVar 4) (wPt (wNeg (wLit (.int 1)))) wNo) (wTup (wCons (wFz (wLst wNil)) wNil)))) (wExpr (wBM isLst fApp (wOp ixop (wVar 4) (wNeg (wLit (.int 1)))) (wCons (wVar 3) wNil))) wPass)
section
variable {ns : List Int} {i : Int} {w : Nat} {v e : D} {g : Nat} {G : Store} {K : Kt} {S : Store} {n : String} {k : Nat}
abbrev sgE (ns : List Int) (i : Int) (w : Nat) (v e : D) : Env := [some (.scr ns), some (.cell 0), some (.int i), some (.int w), some v, some e]
theorem s2_other (h : tyB S v = some n) (hn : isOf n "list" = false) (q : K.nx (sgE ns i w v e) S) : s2E (sgE ns i w v e) S K := by
  simp only [s2E, wSeq, wSet, wExpr, wRet, wRetN, wPass, wBrk, wCont, wIf, wFor, wVar, wLit, wNil, wCons, wTup, wFz, wCell, wLst, wOp, wNeg, wCm, wBl, wChain, wNot, wAnd, wOr, wIs, wTr, wAndV, wOrV, wNotV, wIfe, wNo, wPt, wSl, wSlL, wTrL, wB, wBN, wBM, wBMN, wCall, wRaise, wAttr, wSetA, wPut, wPutL, wProp, wSwap, wUnp, bTupL, wUnpA, wIsi, wDnew, wSortS, wMeth, wAugI, wDel, wComp2, wEnumT, wDcomp, wDcopy, wDpop, wStar, wDisp1, wComp, wVal, wRange1, wRange2, wEnum, wItems, wVals, bName, bNil, bCons, bTup, wipeE, envOf, kt, on, List.map_cons, List.map_nil, List.cons_append, List.nil_append, List.append_nil, List.length_cons, List.length_nil, List.replicate_succ, List.replicate_zero, Nat.reduceAdd, Nat.reduceSub, Nat.zero_add, Nat.add_zero, List.getElem?_cons_succ, List.getElem?_cons_zero, List.set_cons_succ, List.set_cons_zero, Option.some.injEq, exists_eq_left', exists_eq_left, exists_eq_right, exists_eq_right', true_and, and_true, if_true, if_false, Bool.true_eq_false, Bool.false_eq_true, reduceIte, reduceCtorEq, D.int.injEq, D.str.injEq, D.bl.injEq, D.lst.injEq, D.tup.injEq, List.cons.injEq, and_self, exists_and_left, exists_const, and_assoc, Prod.mk.injEq, List.lookup_cons, String.reduceBEq, Bool.not_true, Bool.not_false, wSeal, wOpO, wListItems, wDictP, wCallK, wMakeK, wCallV, wCmX, wEqZ, wStrO, wDis0, wDispS, wMethK, wDclr, wItemsT, wListItemsT, wListT, wListItemsR, wSetC, wMakeC, wIsE, wPut2L, wEqR, wMkE, wMkE0, wEf, wIsV, wDisp1C, wInO, wEqO, wRevT, wRevL, wCallN, wSwap3, wMakeF, wCat, wIso, wGet1, wGet2, wChain3, wLenO, wZipM, wDcompT, wSortT, wNeO, wRaise0]
  refine ⟨n, h, ?_⟩
  rw [if_neg (by simp [hn])]
  exact q
theorem s2_lst {l : List D} (h : S[k]? = some (.lst l)) (hl : l.length ≤ 100) (q : K.nx (sgE ns i w (.cell k) e) (S.set k (.lst (l ++ [.int w])))) : s2E (sgE ns i w (.cell k) e) S K := by
  have hd : deref S (.cell k) = .lst l := by simp only [deref, h]
  simp only [s2E, wSeq, wSet, wExpr, wRet, wRetN, wPass, wBrk, wCont, wIf, wFor, wVar, wLit, wNil, wCons, wTup, wFz, wCell, wLst, wOp, wNeg, wCm, wBl, wChain, wNot, wAnd, wOr, wIs, wTr, wAndV, wOrV, wNotV, wIfe, wNo, wPt, wSl, wSlL, wTrL, wB, wBN, wBM, wBMN, wCall, wRaise, wAttr, wSetA, wPut, wPutL, wProp, wSwap, wUnp, bTupL, wUnpA, wIsi, wDnew, wSortS, wMeth, wAugI, wDel, wComp2, wEnumT, wDcomp, wDcopy, wDpop, wStar, wDisp1, wComp, wVal, wRange1, wRange2, wEnum, wItems, wVals, bName, bNil, bCons, bTup, wipeE, envOf, kt, on, List.map_cons, List.map_nil, List.cons_append, List.nil_append, List.append_nil, List.length_cons, List.length_nil, List.replicate_succ, List.replicate_zero, Nat.reduceAdd, Nat.reduceSub, Nat.zero_add, Nat.add_zero, List.getElem?_cons_succ, List.getElem?_cons_zero, List.set_cons_succ, List.set_cons_zero, Option.some.injEq, exists_eq_left', exists_eq_left, exists_eq_right, exists_eq_right', true_and, and_true, if_true, if_false, Bool.true_eq_false, Bool.false_eq_true, reduceIte, reduceCtorEq, D.int.injEq, D.str.injEq, D.bl.injEq, D.lst.injEq, D.tup.injEq, List.cons.injEq, and_self, exists_and_left, exists_const, and_assoc, Prod.mk.injEq, List.lookup_cons, String.reduceBEq, Bool.not_true, Bool.not_false, wSeal, wOpO, wListItems, wDictP, wCallK, wMakeK, wCallV, wCmX, wEqZ, wStrO, wDis0, wDispS, wMethK, wDclr, wItemsT, wListItemsT, wListT, wListItemsR, wSetC, wMakeC, wIsE, wPut2L, wEqR, wMkE, wMkE0, wEf, wIsV, wDisp1C, wInO, wEqO, wRevT, wRevL, wCallN, wSwap3, wMakeF, wCat, wIso, wGet1, wGet2, wChain3, wLenO, wZipM, wDcompT, wSortT, wNeO, wRaise0]
  refine ⟨"list", by simp only [tyB, hd], ?_⟩
  rw [if_pos (by decide)]
  refine ⟨⟨l, by simp only [getL, hd]⟩, .non, S.set k (.lst (l ++ [.int w])), ?_, q⟩
  show (lstC S (.cell k)).bind _ = _
  have : lstC S (.cell k) = some (k, l) := by simp only [lstC, h]
  rw [this, Option.bind_some]
  exact guard_pos (Nat.lt_of_le_of_lt hl (by decide))
theorem s3_other (h : tyB S v = some n) (hn : isOf n "dict" = false) (q : K.nx (sgE ns i w v e) S) : s3E (sgE ns i w v e) S K := by
  simp only [s3E, wSeq, wSet, wExpr, wRet, wRetN, wPass, wBrk, wCont, wIf, wFor, wVar, wLit, wNil, wCons, wTup, wFz, wCell, wLst, wOp, wNeg, wCm, wBl, wChain, wNot, wAnd, wOr, wIs, wTr, wAndV, wOrV, wNotV, wIfe, wNo, wPt, wSl, wSlL, wTrL, wB, wBN, wBM, wBMN, wCall, wRaise, wAttr, wSetA, wPut, wPutL, wProp, wSwap, wUnp, bTupL, wUnpA, wIsi, wDnew, wSortS, wMeth, wAugI, wDel, wComp2, wEnumT, wDcomp, wDcopy, wDpop, wStar, wDisp1, wComp, wVal, wRange1, wRange2, wEnum, wItems, wVals, bName, bNil, bCons, bTup, wipeE, envOf, kt, on, List.map_cons, List.map_nil, List.cons_append, List.nil_append, List.append_nil, List.length_cons, List.length_nil, List.replicate_succ, List.replicate_zero, Nat.reduceAdd, Nat.reduceSub, Nat.zero_add, Nat.add_zero, List.getElem?_cons_succ, List.getElem?_cons_zero, List.set_cons_succ, List.set_cons_zero, Option.some.injEq, exists_eq_left', exists_eq_left, exists_eq_right, exists_eq_right', true_and, and_true, if_true, if_false, Bool.true_eq_false, Bool.false_eq_true, reduceIte, reduceCtorEq, D.int.injEq, D.str.injEq, D.bl.injEq, D.lst.injEq, D.tup.injEq, List.cons.injEq, and_self, exists_and_left, exists_const, and_assoc, Prod.mk.injEq, List.lookup_cons, String.reduceBEq, Bool.not_true, Bool.not_false, wSeal, wOpO, wListItems, wDictP, wCallK, wMakeK, wCallV, wCmX, wEqZ, wStrO, wDis0, wDispS, wMethK, wDclr, wItemsT, wListItemsT, wListT, wListItemsR, wSetC, wMakeC, wIsE, wPut2L, wEqR, wMkE, wMkE0, wEf, wIsV, wDisp1C, wInO, wEqO, wRevT, wRevL, wCallN, wSwap3, wMakeF, wCat, wIso, wGet1, wGet2, wChain3, wLenO, wZipM, wDcompT, wSortT, wNeO, wRaise0]
  refine ⟨n, h, ?_⟩
  rw [if_neg (by simp [hn])]
  exact q
theorem s3_dct {kvs : List (D × D)} (h : S[k]? = some (.dct false kvs)) (hl : kvs.length ≤ 100) (q : ∀ s : Str, StrB s → K.nx (sgE ns i w (.cell k) e) (S.set k (.dct false (dput kvs (.str s) (.int w))))) : s3E (sgE ns i w (.cell k) e) S K := by
  have hd : deref S (.cell k) = .dct false kvs := by simp only [deref, h]
  simp only [s3E, wSeq, wSet, wExpr, wRet, wRetN, wPass, wBrk, wCont, wIf, wFor, wVar, wLit, wNil, wCons, wTup, wFz, wCell, wLst, wOp, wNeg, wCm, wBl, wChain, wNot, wAnd, wOr, wIs, wTr, wAndV, wOrV, wNotV, wIfe, wNo, wPt, wSl, wSlL, wTrL, wB, wBN, wBM, wBMN, wCall, wRaise, wAttr, wSetA, wPut, wPutL, wProp, wSwap, wUnp, bTupL, wUnpA, wIsi, wDnew, wSortS, wMeth, wAugI, wDel, wComp2, wEnumT, wDcomp, wDcopy, wDpop, wStar, wDisp1, wComp, wVal, wRange1, wRange2, wEnum, wItems, wVals, bName, bNil, bCons, bTup, wipeE, envOf, kt, on, List.map_cons, List.map_nil, List.cons_append, List.nil_append, List.append_nil, List.length_cons, List.length_nil, List.replicate_succ, List.replicate_zero, Nat.reduceAdd, Nat.reduceSub, Nat.zero_add, Nat.add_zero, List.getElem?_cons_succ, List.getElem?_cons_zero, List.set_cons_succ, List.set_cons_zero, Option.some.injEq, exists_eq_left', exists_eq_left, exists_eq_right, exists_eq_right', true_and, and_true, if_true, if_false, Bool.true_eq_false, Bool.false_eq_true, reduceIte, reduceCtorEq, D.int.injEq, D.str.injEq, D.bl.injEq, D.lst.injEq, D.tup.injEq, List.cons.injEq, and_self, exists_and_left, exists_const, and_assoc, Prod.mk.injEq, List.lookup_cons, String.reduceBEq, Bool.not_true, Bool.not_false, wSeal, wOpO, wListItems, wDictP, wCallK, wMakeK, wCallV, wCmX, wEqZ, wStrO, wDis0, wDispS, wMethK, wDclr, wItemsT, wListItemsT, wListT, wListItemsR, wSetC, wMakeC, wIsE, wPut2L, wEqR, wMkE, wMkE0, wEf, wIsV, wDisp1C, wInO, wEqO, wRevT, wRevL, wCallN, wSwap3, wMakeF, wCat, wIso, wGet1, wGet2, wChain3, wLenO, wZipM, wDcompT, wSortT, wNeO, wRaise0]
  refine ⟨"dict", by simp only [tyB, hd], ?_⟩
  rw [if_pos (by decide)]
  have h2 : kvs.length < 127 := by omega
  refine ⟨.int kvs.length, by simp only [fLen, lenop, hd], _, fStr_num _ h2, ?_⟩
  have h3 : (numS kvs.length).length ≤ 3 := by
    have : ∀ k, k < 127 → (numS k).length ≤ 3 := by decide +kernel
    exact this _ h2
  have h4 : (Str.ofString "z").length = 1 := by decide
  refine ⟨_, add_str _ (by omega), k, false, kvs, by simp only [dctC, h], rfl, Nat.lt_of_le_of_lt hl (by decide), ?_⟩
  refine q _ ⟨by rw [strLen_append]; omega, fun c hc => ?_⟩
  have e : (Str.ofString "z" ++ numS kvs.length : Str).cps.toList = (Str.ofString "z").cps.toList ++ (numS kvs.length).cps.toList := Array.toList_append
  rw [e] at hc
  rcases List.mem_append.mp hc with hc | hc
  · exact (strB_of "z" (by decide)).2 c hc
  · have : numS kvs.length = Str.ofString (toString (kvs.length : Int)) := rfl
    rw [this] at hc h3
    exact (strB_of (toString (kvs.length : Int)) (by omega)).2 c hc
theorem s4_other (h : tyB S v = some n) (hn : isOf n "tuple" = false) (q : K.nx (sgE ns i w v e) S) : s4E (sgE ns i w v e) S K := by
  simp only [s4E, wSeq, wSet, wExpr, wRet, wRetN, wPass, wBrk, wCont, wIf, wFor, wVar, wLit, wNil, wCons, wTup, wFz, wCell, wLst, wOp, wNeg, wCm, wBl, wChain, wNot, wAnd, wOr, wIs, wTr, wAndV, wOrV, wNotV, wIfe, wNo, wPt, wSl, wSlL, wTrL, wB, wBN, wBM, wBMN, wCall, wRaise, wAttr, wSetA, wPut, wPutL, wProp, wSwap, wUnp, bTupL, wUnpA, wIsi, wDnew, wSortS, wMeth, wAugI, wDel, wComp2, wEnumT, wDcomp, wDcopy, wDpop, wStar, wDisp1, wComp, wVal, wRange1, wRange2, wEnum, wItems, wVals, bName, bNil, bCons, bTup, wipeE, envOf, kt, on, List.map_cons, List.map_nil, List.cons_append, List.nil_append, List.append_nil, List.length_cons, List.length_nil, List.replicate_succ, List.replicate_zero, Nat.reduceAdd, Nat.reduceSub, Nat.zero_add, Nat.add_zero, List.getElem?_cons_succ, List.getElem?_cons_zero, List.set_cons_succ, List.set_cons_zero, Option.some.injEq, exists_eq_left', exists_eq_left, exists_eq_right, exists_eq_right', true_and, and_true, if_true, if_false, Bool.true_eq_false, Bool.false_eq_true, reduceIte, reduceCtorEq, D.int.injEq, D.str.injEq, D.bl.injEq, D.lst.injEq, D.tup.injEq, List.cons.injEq, and_self, exists_and_left, exists_const, and_assoc, Prod.mk.injEq, List.lookup_cons, String.reduceBEq, Bool.not_true, Bool.not_false, wSeal, wOpO, wListItems, wDictP, wCallK, wMakeK, wCallV, wCmX, wEqZ, wStrO, wDis0, wDispS, wMethK, wDclr, wItemsT, wListItemsT, wListT, wListItemsR, wSetC, wMakeC, wIsE, wPut2L, wEqR, wMkE, wMkE0, wEf, wIsV, wDisp1C, wInO, wEqO, wRevT, wRevL, wCallN, wSwap3, wMakeF, wCat, wIso, wGet1, wGet2, wChain3, wLenO, wZipM, wDcompT, wSortT, wNeO, wRaise0]
  refine ⟨n, h, ?_⟩
  rw [if_neg (by simp [hn])]
  exact q
theorem s4_tup {l : List D} {b : Bool} (h : EqX S 8 (.tup (cutL l (some (-1)) none)) (.tup [.lst []]) b) (q1 : b = false → K.nx (sgE ns i w (.tup l) e) S)
    (q2 : b = true → ∃ k m, atI l (-1) = some (.cell k) ∧ S[k]? = some (.lst m) ∧ m.length ≤ 100 ∧ K.nx (sgE ns i w (.tup l) e) (S.set k (.lst (m ++ [.int w])))) : s4E (sgE ns i w (.tup l) e) S K := by
  simp only [s4E, wSeq, wSet, wExpr, wRet, wRetN, wPass, wBrk, wCont, wIf, wFor, wVar, wLit, wNil, wCons, wTup, wFz, wCell, wLst, wOp, wNeg, wCm, wBl, wChain, wNot, wAnd, wOr, wIs, wTr, wAndV, wOrV, wNotV, wIfe, wNo, wPt, wSl, wSlL, wTrL, wB, wBN, wBM, wBMN, wCall, wRaise, wAttr, wSetA, wPut, wPutL, wProp, wSwap, wUnp, bTupL, wUnpA, wIsi, wDnew, wSortS, wMeth, wAugI, wDel, wComp2, wEnumT, wDcomp, wDcopy, wDpop, wStar, wDisp1, wComp, wVal, wRange1, wRange2, wEnum, wItems, wVals, bName, bNil, bCons, bTup, wipeE, envOf, kt, on, List.map_cons, List.map_nil, List.cons_append, List.nil_append, List.append_nil, List.length_cons, List.length_nil, List.replicate_succ, List.replicate_zero, Nat.reduceAdd, Nat.reduceSub, Nat.zero_add, Nat.add_zero, List.getElem?_cons_succ, List.getElem?_cons_zero, List.set_cons_succ, List.set_cons_zero, Option.some.injEq, exists_eq_left', exists_eq_left, exists_eq_right, exists_eq_right', true_and, and_true, if_true, if_false, Bool.true_eq_false, Bool.false_eq_true, reduceIte, reduceCtorEq, D.int.injEq, D.str.injEq, D.bl.injEq, D.lst.injEq, D.tup.injEq, List.cons.injEq, and_self, exists_and_left, exists_const, and_assoc, Prod.mk.injEq, List.lookup_cons, String.reduceBEq, Bool.not_true, Bool.not_false, wSeal, wOpO, wListItems, wDictP, wCallK, wMakeK, wCallV, wCmX, wEqZ, wStrO, wDis0, wDispS, wMethK, wDclr, wItemsT, wListItemsT, wListT, wListItemsR, wSetC, wMakeC, wIsE, wPut2L, wEqR, wMkE, wMkE0, wEf, wIsV, wDisp1C, wInO, wEqO, wRevT, wRevL, wCallN, wSwap3, wMakeF, wCat, wIso, wGet1, wGet2, wChain3, wLenO, wZipM, wDcompT, wSortT, wNeO, wRaise0]
  refine ⟨"tuple", rfl, ?_⟩
  rw [if_pos (by decide)]
  refine ⟨.tup (cutL l (some (-1)) none), rfl, by decide, by decide, b, ⟨h, rfl⟩, ?_⟩
  cases b with
  | false => rw [if_neg (by decide)]; exact q1 rfl
  | true =>
    rw [if_pos rfl]
    obtain ⟨k, m, h1, h2, h3, h4⟩ := q2 rfl
    have hd : deref S (.cell k) = .lst m := by simp only [deref, h2]
    refine ⟨.cell k, h1, ⟨m, by simp only [getL, hd]⟩, .non, S.set k (.lst (m ++ [.int w])), ?_, h4⟩
    show (lstC S (.cell k)).bind _ = _
    have : lstC S (.cell k) = some (k, m) := by simp only [lstC, h2]
    rw [this, Option.bind_some]
    exact guard_pos (Nat.lt_of_le_of_lt h3 (by decide))
theorem set_noSt {j : Nat} {o : Ob} (h : noSt G) (ho : ∀ g, o ≠ .st g) : noSt (G.set j o) := fun x hx g' => by
  rcases List.mem_or_eq_of_mem_set hx with h1 | rfl
  · exact h x h1 g'
  · exact ho g'
theorem set_wf {j : Nat} {o : Ob} (h : wf (.st g :: G)) (ho : o.refs = []) : wf (.st g :: G.set j o) := fun x hx k hk => by
  simp only [List.length_cons, List.length_set]
  rcases List.mem_cons.mp hx with rfl | hx
  · simp [Ob.refs] at hk
  · rcases List.mem_or_eq_of_mem_set hx with h1 | rfl
    · have := h x (List.mem_cons_of_mem _ h1) k hk
      simpa using this
    · rw [ho] at hk; cases hk
theorem refs_ints (l : List Int) : refsL (l.map D.int) = [] := by
  induction l with
  | nil => rfl
  | cons a l ih => simp [refsL, D.refs, ih]
theorem refs_kvsE (l : List (Str × Int)) : refsP (l.map fun p => (D.str p.1, D.int p.2)) = [] := by
  induction l with
  | nil => rfl
  | cons a l ih => simp [refsP, D.refs, ih]
theorem ints_app {l : List Int} {n : Nat} (hl : l.length ≤ n + 1) (h : ∀ i ∈ l, IntQ i) (hw : w < 12) : ∃ l' : List Int, (l.map D.int ++ [D.int w] : List D) = l'.map D.int ∧ l'.length ≤ n + 1 + 1 ∧ ∀ i ∈ l', IntQ i := by
  refine ⟨l ++ [(w : Int)], by simp, by simp; omega, fun i hi => ?_⟩
  rcases List.mem_append.mp hi with h1 | h1
  · exact h i h1
  · rw [List.mem_singleton.mp h1]; exact ⟨by omega, by omega⟩
theorem dput_kvE {l : List (Str × Int)} {n : Nat} {s : Str} (hl : l.length ≤ n + 1) (h : ∀ p ∈ l, StrB p.1 ∧ IntQ p.2) (hw : w < 12) (hs : StrB s) : ∃ l' : List (Str × Int), dput (l.map fun p => (D.str p.1, D.int p.2)) (.str s) (.int w) = l'.map (fun p => (D.str p.1, D.int p.2)) ∧ l'.length ≤ n + 1 + 1 ∧ ∀ p ∈ l', StrB p.1 ∧ IntQ p.2 := by
  have iw : IntQ (w : Int) := ⟨by omega, by omega⟩
  unfold dput
  split
  · refine ⟨l.map fun p => if p.1 = s then (p.1, (w : Int)) else p, ?_, by simpa using Nat.le_succ_of_le hl, fun p hp => ?_⟩
    · rw [List.map_map, List.map_map]
      refine List.map_congr_left fun p _ => ?_
      simp only [Function.comp_def, D.str.injEq]
      split <;> rfl
    · obtain ⟨x, hx, rfl⟩ := List.mem_map.mp hp
      split
      · exact ⟨(h x hx).1, iw⟩
      · exact h x hx
  · refine ⟨l ++ [(s, (w : Int))], by simp, by simpa using hl, fun p hp => ?_⟩
    rcases List.mem_append.mp hp with h1 | h1
    · exact h p h1
    · rw [List.mem_singleton.mp h1]; exact ⟨hs, iw⟩
theorem plain_ints (n : Nat) (l : List Int) : plain (n + 1) (.lst (l.map D.int)) = true := by
  have : ∀ i, plain n (.int i) = true := fun i => by cases n <;> rfl
  simp [plain, this]
theorem mid_ok {m : Nat} {r : WS} (h : ThQ (.st g :: G) m v) (hm : m ≤ 4) (hw : wf (.st g :: G)) (hG : noSt G) (hw12 : w < 12)
    (q : ∀ G', noSt G' → wf (.st g :: G') → ThQ (.st g :: G') (m + 1) v → r (sgE ns i w v e) (.st g :: G') K) : wSeq s2E (wSeq s3E (wSeq s4E r)) (sgE ns i w v e) (.st g :: G) K := by
  have flat : ∀ {n : String} {v : D}, tyB (.st g :: G) v = some n → isOf n "list" = false → isOf n "dict" = false → isOf n "tuple" = false → r (sgE ns i w v e) (.st g :: G) K → wSeq s2E (wSeq s3E (wSeq s4E r)) (sgE ns i w v e) (.st g :: G) K := fun h1 h2 h3 h4 h5 => s2_other h1 h2 (s3_other h1 h3 (s4_other h1 h4 h5))
  cases h with
  | non => exact flat (n := "NoneType") rfl (by decide) (by decide) (by decide) (q G hG hw .non)
  | bl b => exact flat (n := "bool") rfl (by decide) (by decide) (by decide) (q G hG hw (.bl b))
  | int i h => exact flat (n := "int") rfl (by decide) (by decide) (by decide) (q G hG hw (.int i h))
  | str s h => exact flat (n := "str") rfl (by decide) (by decide) (by decide) (q G hG hw (.str s h))
  | nil =>
    refine s2_other (n := "tuple") rfl (by decide) (s3_other (n := "tuple") rfl (by decide) (s4_tup (b := false) ?_ (fun _ => q G hG hw .nil) (fun z => by cases z)))
    exact EqX.pl (x := .tup []) (y := .tup [.lst []]) rfl rfl
  | pair i h =>
    refine s2_other (n := "tuple") rfl (by decide) (s3_other (n := "tuple") rfl (by decide) (s4_tup (b := false) ?_ (fun _ => q G hG hw (.pair i h)) (fun z => by cases z)))
    exact EqX.pl (x := .tup [.str "a"]) (y := .tup [.lst []]) rfl rfl
  | lst k l e hl h =>
    cases k with
    | zero => cases e
    | succ j =>
      have e' : G[j]? = some (.lst (l.map D.int)) := e
      have hj := (List.getElem?_eq_some_iff.mp e').1
      refine s2_lst e (by rw [List.length_map]; omega) ?_
      obtain ⟨l', h1, h2, h3⟩ := ints_app (w := w) hl h hw12
      rw [h1]
      show wSeq s3E (wSeq s4E r) _ (.st g :: G.set j (.lst (l'.map D.int))) K
      have at1 : (Ob.st g :: G.set j (.lst (l'.map D.int)) : Store)[j + 1]? = some (.lst (l'.map D.int)) := by
        rw [List.getElem?_cons_succ, List.getElem?_set_self hj]
      have ty : tyB (.st g :: G.set j (.lst (l'.map D.int))) (.cell (j + 1)) = some "list" := by simp only [tyB, deref, at1]
      exact s3_other ty (by decide) (s4_other ty (by decide) (q _ (set_noSt hG (by simp)) (set_wf hw (refs_ints l')) (.lst _ l' at1 h2 h3)))
  | dct k l e hl h =>
    cases k with
    | zero => cases e
    | succ j =>
      have e' : G[j]? = some (.dct false (l.map fun p => (D.str p.1, D.int p.2))) := e
      have hj := (List.getElem?_eq_some_iff.mp e').1
      have ty : tyB (.st g :: G) (.cell (j + 1)) = some "dict" := by simp only [tyB, deref, e]
      refine s2_other ty (by decide) (s3_dct e (by rw [List.length_map]; omega) fun s hs => ?_)
      obtain ⟨l', h1, h2, h3⟩ := dput_kvE (w := w) hl h hw12 hs
      rw [h1]
      show wSeq s4E r _ (.st g :: G.set j (.dct false (l'.map fun p => (D.str p.1, D.int p.2)))) K
      have at1 : (Ob.st g :: G.set j (.dct false (l'.map fun p => (D.str p.1, D.int p.2))) : Store)[j + 1]? = some (.dct false (l'.map fun p => (D.str p.1, D.int p.2))) := by
        rw [List.getElem?_cons_succ, List.getElem?_set_self hj]
      have ty2 : tyB (.st g :: G.set j (.dct false (l'.map fun p => (D.str p.1, D.int p.2)))) (.cell (j + 1)) = some "dict" := by simp only [tyB, deref, at1]
      exact s4_other ty2 (by decide) (q _ (set_noSt hG (by simp)) (set_wf hw (refs_kvsE l')) (.dct _ l' at1 h2 h3))
  | deep k l e hl h =>
    cases k with
    | zero => cases e
    | succ j =>
      have e' : G[j]? = some (.lst (l.map D.int)) := e
      have hj := (List.getElem?_eq_some_iff.mp e').1
      have hq := EqX.tt (S := .st g :: G) (n := 7) (xs := [.cell (j + 1)]) (ys := [.lst []]) (fun _ => eqv (.lst (l.map D.int)) (.lst [])) (fun a d f h1 h2 => by
        cases a with
        | zero =>
          cases h1; cases h2
          exact EqX.cl e (plain_ints 6 l) rfl
        | succ a => cases h1)
      refine s2_other (n := "tuple") rfl (by decide) (s3_other (n := "tuple") rfl (by decide) (s4_tup hq (fun _ => q G hG hw (.deep _ l e (by omega) h)) (fun _ => ⟨j + 1, l.map D.int, rfl, e, by rw [List.length_map]; omega, ?_⟩)))
      obtain ⟨l', h1, h2, h3⟩ := ints_app (w := w) hl h hw12
      rw [h1]
      show r _ (.st g :: G.set j (.lst (l'.map D.int))) K
      have at1 : (Ob.st g :: G.set j (.lst (l'.map D.int)) : Store)[j + 1]? = some (.lst (l'.map D.int)) := by
        rw [List.getElem?_cons_succ, List.getElem?_set_self hj]
      exact q _ (set_noSt hG (by simp)) (set_wf hw (refs_ints l')) (.deep _ l' at1 h2 h3)
end
end WM
set_option maxHeartbeats 4000000
namespace WM
open PySem PySem.Spec PyProof.Rows L2
def s1E : WS := (wIf (wOr (wNot (wIs (wCall sp_l_stands [] (wCons (wVar 5) (wCons (wVar 3) wNil))))) (wCm neW (wB fReprD (wCons (wCall sp_l_field [] (wCons (wVar 3) (wCons (wVar 5) wNil))) wNil)) (wB fReprD (wCons (wVar 4) wNil)))) (wRet (wLit (.bl false))) wPass)
def s5E : WS := (wIf (wCm neW (wB fReprD (wCons (wCall sp_l_field [] (wCons (wVar 3) (wCons (wVar 5) wNil))) wNil)) (wB fReprD (wCons (wVar 4) wNil))) (wRet (wLit (.bl false))) wPass)
section
variable {ns : List Int} {i : Int} {w m : Nat} {v : D} {K : Kt} {S : Store}
theorem ne_same (s : Str) : neW S (.str s) (.str s) = some false := by
  show (eqTop (.str s) (.str s)).map not = _
  show (eqF (.str s) (.str s)).map not = _
  rw [eqF_str]
  simp
theorem s1_ok (h : ThQ S m v) (hm : m ≤ 8) (hw : w < 12) (q : K.nx (sgE ns i w v (.er (errN w) [(fldN w, v)])) S) : s1E (sgE ns i w v (.er (errN w) [(fldN w, v)])) S K := by
  obtain ⟨s, hs⟩ := h.repr hm
  simp only [s1E, wSeq, wSet, wExpr, wRet, wRetN, wPass, wBrk, wCont, wIf, wFor, wVar, wLit, wNil, wCons, wTup, wFz, wCell, wLst, wOp, wNeg, wCm, wBl, wChain, wNot, wAnd, wOr, wIs, wTr, wAndV, wOrV, wNotV, wIfe, wNo, wPt, wSl, wSlL, wTrL, wB, wBN, wBM, wBMN, wCall, wRaise, wAttr, wSetA, wPut, wPutL, wProp, wSwap, wUnp, bTupL, wUnpA, wIsi, wDnew, wSortS, wMeth, wAugI, wDel, wComp2, wEnumT, wDcomp, wDcopy, wDpop, wStar, wDisp1, wComp, wVal, wRange1, wRange2, wEnum, wItems, wVals, bName, bNil, bCons, bTup, wipeE, envOf, kt, on, List.map_cons, List.map_nil, List.cons_append, List.nil_append, List.append_nil, List.length_cons, List.length_nil, List.replicate_succ, List.replicate_zero, Nat.reduceAdd, Nat.reduceSub, Nat.zero_add, Nat.add_zero, List.getElem?_cons_succ, List.getElem?_cons_zero, List.set_cons_succ, List.set_cons_zero, Option.some.injEq, exists_eq_left', exists_eq_left, exists_eq_right, exists_eq_right', true_and, and_true, if_true, if_false, Bool.true_eq_false, Bool.false_eq_true, reduceIte, reduceCtorEq, D.int.injEq, D.str.injEq, D.bl.injEq, D.lst.injEq, D.tup.injEq, List.cons.injEq, and_self, exists_and_left, exists_const, and_assoc, Prod.mk.injEq, List.lookup_cons, String.reduceBEq, Bool.not_true, Bool.not_false, wSeal, wOpO, wListItems, wDictP, wCallK, wMakeK, wCallV, wCmX, wEqZ, wStrO, wDis0, wDispS, wMethK, wDclr, wItemsT, wListItemsT, wListT, wListItemsR, wSetC, wMakeC, wIsE, wPut2L, wEqR, wMkE, wMkE0, wEf, wIsV, wDisp1C, wInO, wEqO, wRevT, wRevL, wCallN, wSwap3, wMakeF, wCat, wIso, wGet1, wGet2, wChain3, wLenO, wZipM, wDcompT, wSortT, wNeO, wRaise0]
  refine ⟨w, _, by omega, rfl, true, rfl, ?_⟩
  rw [if_neg (by decide)]
  refine ⟨w, v, hw, rfl, _, hs, _, hs, false, ne_same s, ?_⟩
  rw [if_neg (by decide)]
  exact q
theorem s5_ok (h : ThQ S m v) (hm : m ≤ 8) (hw : w < 12) (q : K.nx (sgE ns i w v (.er (errN w) [(fldN w, v)])) S) : s5E (sgE ns i w v (.er (errN w) [(fldN w, v)])) S K := by
  obtain ⟨s, hs⟩ := h.repr hm
  simp only [s5E, wSeq, wSet, wExpr, wRet, wRetN, wPass, wBrk, wCont, wIf, wFor, wVar, wLit, wNil, wCons, wTup, wFz, wCell, wLst, wOp, wNeg, wCm, wBl, wChain, wNot, wAnd, wOr, wIs, wTr, wAndV, wOrV, wNotV, wIfe, wNo, wPt, wSl, wSlL, wTrL, wB, wBN, wBM, wBMN, wCall, wRaise, wAttr, wSetA, wPut, wPutL, wProp, wSwap, wUnp, bTupL, wUnpA, wIsi, wDnew, wSortS, wMeth, wAugI, wDel, wComp2, wEnumT, wDcomp, wDcopy, wDpop, wStar, wDisp1, wComp, wVal, wRange1, wRange2, wEnum, wItems, wVals, bName, bNil, bCons, bTup, wipeE, envOf, kt, on, List.map_cons, List.map_nil, List.cons_append, List.nil_append, List.append_nil, List.length_cons, List.length_nil, List.replicate_succ, List.replicate_zero, Nat.reduceAdd, Nat.reduceSub, Nat.zero_add, Nat.add_zero, List.getElem?_cons_succ, List.getElem?_cons_zero, List.set_cons_succ, List.set_cons_zero, Option.some.injEq, exists_eq_left', exists_eq_left, exists_eq_right, exists_eq_right', true_and, and_true, if_true, if_false, Bool.true_eq_false, Bool.false_eq_true, reduceIte, reduceCtorEq, D.int.injEq, D.str.injEq, D.bl.injEq, D.lst.injEq, D.tup.injEq, List.cons.injEq, and_self, exists_and_left, exists_const, and_assoc, Prod.mk.injEq, List.lookup_cons, String.reduceBEq, Bool.not_true, Bool.not_false, wSeal, wOpO, wListItems, wDictP, wCallK, wMakeK, wCallV, wCmX, wEqZ, wStrO, wDis0, wDispS, wMethK, wDclr, wItemsT, wListItemsT, wListT, wListItemsR, wSetC, wMakeC, wIsE, wPut2L, wEqR, wMkE, wMkE0, wEf, wIsV, wDisp1C, wInO, wEqO, wRevT, wRevL, wCallN, wSwap3, wMakeF, wCat, wIso, wGet1, wGet2, wChain3, wLenO, wZipM, wDcompT, wSortT, wNeO, wRaise0]
  refine ⟨w, v, hw, rfl, _, hs, _, hs, false, ne_same s, ?_⟩
  rw [if_neg (by decide)]
  exact q
end
theorem law_law (ds S Q X) (hw : wf S) (hr : ∀ k ∈ refsL ds, k < S.length) (h : sp_law ds S Q X) : w_law (envOf n_law.length ds) S (kt S.length Q X) := by
  obtain ⟨ns, rfl, rfl, hns, q⟩ := h
  have hb0 : budget = 2 ^ 36 := rfl
  unfold w_law
  simp only [wSeq, wSet, wCall, wCons, wNil, wVar, wLit, List.append_nil, wRange1]
  refine ⟨_, rfl, ns, rfl, rfl, hns, ?_⟩
  unfold wFor
  simp only [wRange1, wCons, wNil, wLit]
  refine ⟨24, rfl, ⟨by decide, by decide⟩, ?_⟩
  rw [show (24 : Int) = ((24 : Nat) : Int) from rfl, rangeD0]
  refine for_inv (g := none) (List.range 24) (enc := fun i : Nat => D.int i) (fun pre σ S' => ∃ (g' : Nat) (G : Store) (o2 o3 o4 o5 : Option D), σ = [some (.scr ns), some (.cell 0), o2, o3, o4, o5] ∧ S' = .st g' :: G ∧ noSt G ∧ wf S' ∧ budget ≤ g' + 10 * pre.length) (fun _ _ _ _ => trivial) ?_ ⟨budget, [], none, none, none, none, rfl, rfl, (fun o ho => by simp at ho), ?_, by simp⟩ ?_
  · rintro pre i post σ S' ex ⟨g', G, o2, o3, o4, o5, rfl, rfl, hG, hw, hg'⟩ nx hnx
    have lx := congrArg List.length ex
    simp only [List.length_append, List.length_cons, List.length_range] at lx
    simp only [wSeq, wSet, wCall, wCons, wNil, wVar, wLit, List.append_nil, bName, wVal, wFz, wLst]
    refine ⟨_, rfl, draw_in (m := 12) (by omega) hG (by decide) (by decide) fun w g1 hw12 hg1 => ?_⟩
    refine ⟨_, rfl, g1, G, rfl, rfl, by omega, hG, fun v g2 G2 hg2 hG2 hwf hrf hv => ?_⟩
    refine ⟨_, rfl, _, rfl, w, v, hw12, rfl, _, rfl, _, rfl, w, v, hw12, rfl, szl (by simp), _, itemsV_lst _ _, ?_⟩
    simp only [cellOf_lst]
    refine for_inv (g := none) [D.er (errN w) [(fldN w, v)], D.er (errN w) [(fldN w, v)]] (enc := id) (fun pr σ S' => ∃ (G3 : Store) (o5 : Option D), σ = [some (.scr ns), some (.cell 0), some (.int i), some (.int w), some v, o5] ∧ S' = .st g2 :: G3 ∧ noSt G3 ∧ wf S' ∧ ThQ S' pr.length v) (fun _ _ _ _ => trivial) ?_ ⟨G ++ G2, o5, rfl, rfl, noSt_appE hG hG2, hwf, hv⟩ ?_
    · rintro pr e po σ S' ex2 ⟨G3, o5, rfl, rfl, hG3, hw3, hv3⟩ nx2 hnx2
      have lx2 := congrArg List.length ex2
      simp only [List.length_append, List.length_cons, List.length_nil] at lx2
      have he : e = .er (errN w) [(fldN w, v)] := by
        have : e ∈ [D.er (errN w) [(fldN w, v)], D.er (errN w) [(fldN w, v)]] := by rw [ex2]; simp
        simpa using this
      subst he
      refine s1_ok (i := (i : Int)) hv3 (by omega) hw12 ?_
      refine mid_ok (i := (i : Int)) (r := s5E) hv3 (by omega) hw3 hG3 hw12 fun G4 h1 h2 h3 => ?_
      refine s5_ok (i := (i : Int)) h3 (by omega) hw12 ?_
      exact hnx2 _ _ ⟨G4, _, rfl, rfl, h1, h2, by rw [List.length_append]; exact h3⟩
    · rintro σ S' ⟨G3, o5, rfl, rfl, hG3, hw3, hv3⟩
      exact hnx _ _ ⟨g2, G3, _, _, _, _, rfl, rfl, hG3, hw3, by rw [List.length_append, List.length_singleton, Nat.mul_add]; omega⟩
  · intro o ho k hk
    simp at ho; subst ho; simp [Ob.refs] at hk
  · rintro σ S' ⟨g', G, o2, o3, o4, o5, rfl, rfl, hG, hw, hg'⟩
    simp only [wSeq, wSet, wExpr, wRet, wRetN, wPass, wBrk, wCont, wIf, wFor, wVar, wLit, wNil, wCons, wTup, wFz, wCell, wLst, wOp, wNeg, wCm, wBl, wChain, wNot, wAnd, wOr, wIs, wTr, wAndV, wOrV, wNotV, wIfe, wNo, wPt, wSl, wSlL, wTrL, wB, wBN, wBM, wBMN, wCall, wRaise, wAttr, wSetA, wPut, wPutL, wProp, wSwap, wUnp, bTupL, wUnpA, wIsi, wDnew, wSortS, wMeth, wAugI, wDel, wComp2, wEnumT, wDcomp, wDcopy, wDpop, wStar, wDisp1, wComp, wVal, wRange1, wRange2, wEnum, wItems, wVals, bName, bNil, bCons, bTup, wipeE, envOf, kt, on, List.map_cons, List.map_nil, List.cons_append, List.nil_append, List.append_nil, List.length_cons, List.length_nil, List.replicate_succ, List.replicate_zero, Nat.reduceAdd, Nat.reduceSub, Nat.zero_add, Nat.add_zero, List.getElem?_cons_succ, List.getElem?_cons_zero, List.set_cons_succ, List.set_cons_zero, Option.some.injEq, exists_eq_left', exists_eq_left, exists_eq_right, exists_eq_right', true_and, and_true, if_true, if_false, Bool.true_eq_false, Bool.false_eq_true, reduceIte, reduceCtorEq, D.int.injEq, D.str.injEq, D.bl.injEq, D.lst.injEq, D.tup.injEq, List.cons.injEq, and_self, exists_and_left, exists_const, and_assoc, Prod.mk.injEq, List.lookup_cons, String.reduceBEq, Bool.not_true, Bool.not_false, wSeal, wOpO, wListItems, wDictP, wCallK, wMakeK, wCallV, wCmX, wEqZ, wStrO, wDis0, wDispS, wMethK, wDclr, wItemsT, wListItemsT, wListT, wListItemsR, wSetC, wMakeC, wIsE, wPut2L, wEqR, wMkE, wMkE0, wEf, wIsV, wDisp1C, wInO, wEqO, wRevT, wRevL, wCallN, wSwap3, wMakeF, wCat, wIso, wGet1, wGet2, wChain3, wLenO, wZipM, wDcompT, wSortT, wNeO, wRaise0]
    refine ⟨12, [], by decide, rfl, true, rfl, ?_⟩
    rw [if_neg (by decide)]
    refine ⟨13, [], by decide, rfl, true, rfl, ?_⟩
    rw [if_neg (by decide)]
    refine ⟨14, [], by decide, rfl, true, rfl, ?_⟩
    rw [if_neg (by decide)]
    exact ⟨15, [], by decide, rfl, fin_id (q _)⟩
end WM
set_option maxHeartbeats 4000000
namespace K02
open PySem PySem.Spec PyProof.Rows L2 WM
/-- what is known of the module's names -/
structure Fx (K : PySem.W.Frag) (mg : Str → Option Value) : Prop where
  b_ValueError : mg "ValueError" = none
  b_dict : mg "dict" = none
  b_isinstance : mg "isinstance" = none
  b_len : mg "len" = none
  b_list : mg "list" = none
  b_range : mg "range" = none
  b_repr : mg "repr" = none
  b_str : mg "str" = none
  b_tuple : mg "tuple" = none
  ef_count : EfC K errs_count "count"
  ef_name : EfC K errs_name "name"
  ef_text : EfC K errs_text "text"
  ef_value : EfC K errs_value "value"
  g_AllDrawn : mg "AllDrawn" = some (.ref (He.ga K "AllDrawn"))
  g_BadCell : mg "BadCell" = some (.ref (He.ga K "BadCell"))
  g_BadCount : mg "BadCount" = some (.ref (He.ga K "BadCount"))
  g_BadLimits : mg "BadLimits" = some (.ref (He.ga K "BadLimits"))
  g_BadName : mg "BadName" = some (.ref (He.ga K "BadName"))
  g_BadNumber : mg "BadNumber" = some (.ref (He.ga K "BadNumber"))
  g_BadRing : mg "BadRing" = some (.ref (He.ga K "BadRing"))
  g_BadText : mg "BadText" = some (.ref (He.ga K "BadText"))
  g_Barred : mg "Barred" = some (.ref (He.ga K "Barred"))
  g_DuplicateName : mg "DuplicateName" = some (.ref (He.ga K "DuplicateName"))
  g_MixError : mg "MixError" = some (.ref (He.ga K "MixError"))
  g_NoWhole : mg "NoWhole" = some (.ref (He.ga K "NoWhole"))
  g_NotBarred : mg "NotBarred" = some (.ref (He.ga K "NotBarred"))
  g_NothingToUndo : mg "NothingToUndo" = some (.ref (He.ga K "NothingToUndo"))
  g_Shut : mg "Shut" = some (.ref (He.ga K "Shut"))
  g_UnknownName : mg "UnknownName" = some (.ref (He.ga K "UnknownName"))
  g_UnlikeLayouts : mg "UnlikeLayouts" = some (.ref (He.ga K "UnlikeLayouts"))
  iv_AllDrawn : IvC K errs02 "AllDrawn"
  iv_BadCell : IvC K errs02 "BadCell"
  iv_BadCount : IvC K errs02 "BadCount"
  iv_BadLimits : IvC K errs02 "BadLimits"
  iv_BadName : IvC K errs02 "BadName"
  iv_BadNumber : IvC K errs02 "BadNumber"
  iv_BadRing : IvC K errs02 "BadRing"
  iv_BadText : IvC K errs02 "BadText"
  iv_Barred : IvC K errs02 "Barred"
  iv_DuplicateName : IvC K errs02 "DuplicateName"
  iv_MixError : IvC K errs02 "MixError"
  iv_NoWhole : IvC K errs02 "NoWhole"
  iv_NotBarred : IvC K errs02 "NotBarred"
  iv_NothingToUndo : IvC K errs02 "NothingToUndo"
  iv_Shut : IvC K errs02 "Shut"
  iv_UnknownName : IvC K errs02 "UnknownName"
  iv_UnlikeLayouts : IvC K errs02 "UnlikeLayouts"
  iv_ValueError : IvC K errs02 "ValueError"
  sys : sysB K = true
  triv : True
abbrev s_l_thing : Stmt := (top 21)
theorem sc_l_thing : FnScope n_l_thing ["_law_state"] (defScope s_l_thing) := ⟨rfl, rfl, rfl, by decide +kernel, rfl, by decide +kernel, by decide +kernel⟩
theorem walk_l_thing {P : Program} {w : World} {K : PySem.W.Frag} {mg : Str → Option Value} {base : Heap} {f : Addr} (c : Fx K mg) (k_l_draw : Know P w K mg base 1 "_law_draw" ["_law_state", "_law_size"] sp_l_draw) (cdv : Value) (A : Around) (outer : List PySem.Env) (s : Shared) (H : Hp) (E : XK) (B : Bs) (hr0 : Room 1 (A.deeper (envOfC "_law_thing" (defScope s_l_thing) s.heap.objs.size f cdv))) :
    PSs (cxOf (L2N.CX P w) P w K mg base n_l_thing "_law_thing" (defScope s_l_thing) f cdv A outer s H E) (defBody s_l_thing) (tS K none B (fun cls d _ H => E cls d H) w_l_thing) := by
  have nd := sc_l_thing.nd
  have tk : L2N.Takes (cxOf (L2N.CX P w) P w K mg base n_l_thing "_law_thing" (defScope s_l_thing) f cdv A outer s H E) (fun cls d _ H => E cls d H) := L2N.takes_of rfl rfl rfl rfl
  have po : PassesOwn (model P w) _ _ _ := passes_of (X := cxOf (L2N.CX P w) P w K mg base n_l_thing "_law_thing" (defScope s_l_thing) f cdv A outer s H E) rfl
  have hr : Room 1 (cxOf (L2N.CX P w) P w K mg base n_l_thing "_law_thing" (defScope s_l_thing) f cdv A outer s H E).A := hr0
  exact (ss_cons (s_set (i := 1) nd rfl (by first | exact Or.inl rfl | exact Or.inr rfl) (e_kn k_l_draw hr (by decide) tk (l_cons (e_var (pv 0)) (l_cons (e_bin .pow e_int e_int) l_nil))))
    (ss_cons (s_set (i := 2) nd rfl (by first | exact Or.inl rfl | exact Or.inr rfl) (e_fz (n_lst (l_cons (e_var (pv 1)) (l_cons (e_bin .add (e_bin .pow e_int e_int) (e_var (pv 1))) (l_cons (e_bin .add e_str (e_call (pe_callTy b_str (by rfl) c.b_str (by decide +kernel) (l_cons (e_var (pv 1)) l_nil)))) (l_cons e_str (l_cons (e_non pe_non) (l_cons (e_bl pe_bl) (l_cons (e_bl pe_bl) (l_cons (e_cell (n_lst (l_cons (e_var (pv 1)) l_nil))) (l_cons (e_cell (n_lst l_nil)) (l_cons (e_tup (l_cons (e_var (pv 1)) (l_cons e_str l_nil))) (l_cons (e_tup l_nil) (l_cons e_dnew l_nil)))))))))))))))
    (ss_one (s_ret (e_ix (hu_of hr) (e_bin .add (e_var (pv 2)) (e_fz (n_lst (l_cons (e_disp1C (fun _ => e_str) (fun _ => (e_var (pv 1)))) (l_cons (e_tup (l_cons (e_tup (l_cons (e_tup (l_cons e_str (l_cons e_str l_nil))) l_nil)) (l_cons (e_cell (n_lst l_nil)) l_nil))) (l_cons (e_neg (e_var (pv 1))) l_nil)))))) (e_kn k_l_draw hr (by decide) tk (l_cons (e_var (pv 0)) (l_cons e_int l_nil))))))))
abbrev s_l_made : Stmt := (top 22)
theorem sc_l_made : FnScope n_l_made ["_law_way", "_law_thing_here"] (defScope s_l_made) := ⟨rfl, rfl, rfl, by decide +kernel, rfl, by decide +kernel, by decide +kernel⟩
theorem walk_l_made {P : Program} {w : World} {K : PySem.W.Frag} {mg : Str → Option Value} {base : Heap} {f : Addr} (c : Fx K mg) (k_BadCell : KnowE P w K mg base "BadCell" "value") (k_BadCount : KnowE P w K mg base "BadCount" "count") (k_BadLimits : KnowE P w K mg base "BadLimits" "value") (k_BadName : KnowE P w K mg base "BadName" "name") (k_BadNumber : KnowE P w K mg base "BadNumber" "value") (k_BadRing : KnowE P w K mg base "BadRing" "value") (k_BadText : KnowE P w K mg base "BadText" "text") (k_Barred : KnowE P w K mg base "Barred" "value") (k_DuplicateName : KnowE P w K mg base "DuplicateName" "name") (k_NoWhole : KnowE P w K mg base "NoWhole" "value") (k_Shut : KnowE P w K mg base "Shut" "value") (k_UnknownName : KnowE P w K mg base "UnknownName" "name") (cdv : Value) (A : Around) (outer : List PySem.Env) (s : Shared) (H : Hp) (E : XK) (B : Bs) (hr0 : Room 2 (A.deeper (envOfC "_law_made" (defScope s_l_made) s.heap.objs.size f cdv))) :
    PSs (cxOf (L2N.CX P w) P w K mg base n_l_made "_law_made" (defScope s_l_made) f cdv A outer s H E) (defBody s_l_made) (tS K none B (fun cls d _ H => E cls d H) w_l_made) := by
  have nd := sc_l_made.nd
  have tk : L2N.Takes (cxOf (L2N.CX P w) P w K mg base n_l_made "_law_made" (defScope s_l_made) f cdv A outer s H E) (fun cls d _ H => E cls d H) := L2N.takes_of rfl rfl rfl rfl
  have po : PassesOwn (model P w) _ _ _ := passes_of (X := cxOf (L2N.CX P w) P w K mg base n_l_made "_law_made" (defScope s_l_made) f cdv A outer s H E) rfl
  have hr : Room 2 (cxOf (L2N.CX P w) P w K mg base n_l_made "_law_made" (defScope s_l_made) f cdv A outer s H E).A := hr0
  exact (ss_cons (s_if (t_cm c_lt (e_var (pv 0)) e_int (nomark _)) (ss_one (s_ret (e_ix (hu_of hr) (e_fz (n_lst (l_cons (e_mkE k_BadName hr (by decide) (l_cons (e_var (pv 1)) l_nil)) (l_cons (e_mkE k_DuplicateName hr (by decide) (l_cons (e_var (pv 1)) l_nil)) (l_cons (e_mkE k_UnknownName hr (by decide) (l_cons (e_var (pv 1)) l_nil)) l_nil))))) (e_var (pv 0))))) ss_nil)
    (ss_cons (s_if (t_cm (c_eq (hu9 hr)) (e_var (pv 0)) e_int (nomark _)) (ss_one (s_ret (e_mkE k_BadCount hr (by decide) (l_cons (e_var (pv 1)) l_nil)))) ss_nil)
    (ss_cons (s_if (t_cm (c_eq (hu9 hr)) (e_var (pv 0)) e_int (nomark _)) (ss_one (s_ret (e_mkE k_BadText hr (by decide) (l_cons (e_var (pv 1)) l_nil)))) ss_nil)
    (ss_cons (s_set (i := 2) nd rfl (by first | exact Or.inl rfl | exact Or.inr rfl) (e_fz (n_lst (l_cons (e_mkE k_BadCell hr (by decide) (l_cons (e_var (pv 1)) l_nil)) (l_cons (e_mkE k_BadNumber hr (by decide) (l_cons (e_var (pv 1)) l_nil)) (l_cons (e_mkE k_BadLimits hr (by decide) (l_cons (e_var (pv 1)) l_nil)) (l_cons (e_mkE k_BadRing hr (by decide) (l_cons (e_var (pv 1)) l_nil)) (l_cons (e_mkE k_Barred hr (by decide) (l_cons (e_var (pv 1)) l_nil)) (l_cons (e_mkE k_NoWhole hr (by decide) (l_cons (e_var (pv 1)) l_nil)) l_nil)))))))))
    (ss_one (s_ret (e_ix (hu_of hr) (e_bin .add (e_var (pv 2)) (e_fz (n_lst (l_cons (e_mkE k_Shut hr (by decide) (l_cons (e_var (pv 1)) l_nil)) l_nil)))) (e_bin .sub (e_var (pv 0)) e_int))))))))
abbrev s_l_named : Stmt := (top 23)
theorem sc_l_named : FnScope n_l_named ["_law_way", "_law_thing_here"] (defScope s_l_named) := ⟨rfl, rfl, rfl, by decide +kernel, rfl, by decide +kernel, by decide +kernel⟩
theorem walk_l_named {P : Program} {w : World} {K : PySem.W.Frag} {mg : Str → Option Value} {base : Heap} {f : Addr} (c : Fx K mg) (kk_BadCell : KnowEK P w K mg base "BadCell" "value") (kk_BadCount : KnowEK P w K mg base "BadCount" "count") (kk_BadLimits : KnowEK P w K mg base "BadLimits" "value") (kk_BadName : KnowEK P w K mg base "BadName" "name") (kk_BadNumber : KnowEK P w K mg base "BadNumber" "value") (kk_BadRing : KnowEK P w K mg base "BadRing" "value") (kk_BadText : KnowEK P w K mg base "BadText" "text") (kk_Barred : KnowEK P w K mg base "Barred" "value") (kk_DuplicateName : KnowEK P w K mg base "DuplicateName" "name") (kk_NoWhole : KnowEK P w K mg base "NoWhole" "value") (kk_Shut : KnowEK P w K mg base "Shut" "value") (kk_UnknownName : KnowEK P w K mg base "UnknownName" "name") (cdv : Value) (A : Around) (outer : List PySem.Env) (s : Shared) (H : Hp) (E : XK) (B : Bs) (hr0 : Room 2 (A.deeper (envOfC "_law_named" (defScope s_l_named) s.heap.objs.size f cdv))) :
    PSs (cxOf (L2N.CX P w) P w K mg base n_l_named "_law_named" (defScope s_l_named) f cdv A outer s H E) (defBody s_l_named) (tS K none B (fun cls d _ H => E cls d H) w_l_named) := by
  have nd := sc_l_named.nd
  have tk : L2N.Takes (cxOf (L2N.CX P w) P w K mg base n_l_named "_law_named" (defScope s_l_named) f cdv A outer s H E) (fun cls d _ H => E cls d H) := L2N.takes_of rfl rfl rfl rfl
  have po : PassesOwn (model P w) _ _ _ := passes_of (X := cxOf (L2N.CX P w) P w K mg base n_l_named "_law_named" (defScope s_l_named) f cdv A outer s H E) rfl
  have hr : Room 2 (cxOf (L2N.CX P w) P w K mg base n_l_named "_law_named" (defScope s_l_named) f cdv A outer s H E).A := hr0
  exact (ss_cons (s_if (t_cm c_lt (e_var (pv 0)) e_int (nomark _)) (ss_one (s_ret (e_ix (hu_of hr) (e_fz (n_lst (l_cons (e_mkEK kk_BadName hr (by decide) (e_var (pv 1))) (l_cons (e_mkEK kk_DuplicateName hr (by decide) (e_var (pv 1))) (l_cons (e_mkEK kk_UnknownName hr (by decide) (e_var (pv 1))) l_nil))))) (e_var (pv 0))))) ss_nil)
    (ss_cons (s_if (t_cm (c_eq (hu9 hr)) (e_var (pv 0)) e_int (nomark _)) (ss_one (s_ret (e_mkEK kk_BadCount hr (by decide) (e_var (pv 1))))) ss_nil)
    (ss_cons (s_if (t_cm (c_eq (hu9 hr)) (e_var (pv 0)) e_int (nomark _)) (ss_one (s_ret (e_mkEK kk_BadText hr (by decide) (e_var (pv 1))))) ss_nil)
    (ss_cons (s_set (i := 2) nd rfl (by first | exact Or.inl rfl | exact Or.inr rfl) (e_fz (n_lst (l_cons (e_mkEK kk_BadCell hr (by decide) (e_var (pv 1))) (l_cons (e_mkEK kk_BadNumber hr (by decide) (e_var (pv 1))) (l_cons (e_mkEK kk_BadLimits hr (by decide) (e_var (pv 1))) (l_cons (e_mkEK kk_BadRing hr (by decide) (e_var (pv 1))) l_nil)))))))
    (ss_one (s_ret (e_ix (hu_of hr) (e_bin .add (e_var (pv 2)) (e_fz (n_lst (l_cons (e_mkEK kk_Barred hr (by decide) (e_var (pv 1))) (l_cons (e_mkEK kk_NoWhole hr (by decide) (e_var (pv 1))) (l_cons (e_mkEK kk_Shut hr (by decide) (e_var (pv 1))) l_nil)))))) (e_bin .sub (e_var (pv 0)) e_int))))))))
abbrev s_l_field : Stmt := (top 24)
theorem sc_l_field : FnScope n_l_field ["_law_way", "_law_e"] (defScope s_l_field) := ⟨rfl, rfl, rfl, by decide +kernel, rfl, by decide +kernel, by decide +kernel⟩
theorem walk_l_field {P : Program} {w : World} {K : PySem.W.Frag} {mg : Str → Option Value} {base : Heap} {f : Addr} (c : Fx K mg) (cdv : Value) (A : Around) (outer : List PySem.Env) (s : Shared) (H : Hp) (E : XK) (B : Bs) (hr0 : Room 0 (A.deeper (envOfC "_law_field" (defScope s_l_field) s.heap.objs.size f cdv))) :
    PSs (cxOf (L2N.CX P w) P w K mg base n_l_field "_law_field" (defScope s_l_field) f cdv A outer s H E) (defBody s_l_field) (tS K none B (fun cls d _ H => E cls d H) w_l_field) := by
  have nd := sc_l_field.nd
  have tk : L2N.Takes (cxOf (L2N.CX P w) P w K mg base n_l_field "_law_field" (defScope s_l_field) f cdv A outer s H E) (fun cls d _ H => E cls d H) := L2N.takes_of rfl rfl rfl rfl
  have po : PassesOwn (model P w) _ _ _ := passes_of (X := cxOf (L2N.CX P w) P w K mg base n_l_field "_law_field" (defScope s_l_field) f cdv A outer s H E) rfl
  have hr : Room 0 (cxOf (L2N.CX P w) P w K mg base n_l_field "_law_field" (defScope s_l_field) f cdv A outer s H E).A := hr0
  exact (ss_cons (s_if (t_cm c_lt (e_var (pv 0)) e_int (nomark _)) (ss_one (s_ret (e_ef c.ef_name (e_var (pv 1))))) ss_nil)
    (ss_cons (s_if (t_cm (c_eq (hu9 hr)) (e_var (pv 0)) e_int (nomark _)) (ss_one (s_ret (e_ef c.ef_count (e_var (pv 1))))) ss_nil)
    (ss_cons (s_if (t_cm (c_eq (hu9 hr)) (e_var (pv 0)) e_int (nomark _)) (ss_one (s_ret (e_ef c.ef_text (e_var (pv 1))))) ss_nil)
    (ss_one (s_ret (e_ef c.ef_value (e_var (pv 1))))))))
abbrev s_l_kinds : Stmt := (top 25)
theorem sc_l_kinds : FnScope n_l_kinds ["_law_e"] (defScope s_l_kinds) := ⟨rfl, rfl, rfl, by decide +kernel, rfl, by decide +kernel, by decide +kernel⟩
theorem walk_l_kinds {P : Program} {w : World} {K : PySem.W.Frag} {mg : Str → Option Value} {base : Heap} {f : Addr} (c : Fx K mg) (cdv : Value) (A : Around) (outer : List PySem.Env) (s : Shared) (H : Hp) (E : XK) (B : Bs) (hr0 : Room 0 (A.deeper (envOfC "_law_kinds" (defScope s_l_kinds) s.heap.objs.size f cdv))) :
    PSs (cxOf (L2N.CX P w) P w K mg base n_l_kinds "_law_kinds" (defScope s_l_kinds) f cdv A outer s H E) (defBody s_l_kinds) (tS K none B (fun cls d _ H => E cls d H) w_l_kinds) := by
  have nd := sc_l_kinds.nd
  have tk : L2N.Takes (cxOf (L2N.CX P w) P w K mg base n_l_kinds "_law_kinds" (defScope s_l_kinds) f cdv A outer s H E) (fun cls d _ H => E cls d H) := L2N.takes_of rfl rfl rfl rfl
  have po : PassesOwn (model P w) _ _ _ := passes_of (X := cxOf (L2N.CX P w) P w K mg base n_l_kinds "_law_kinds" (defScope s_l_kinds) f cdv A outer s H E) rfl
  have hr : Room 0 (cxOf (L2N.CX P w) P w K mg base n_l_kinds "_law_kinds" (defScope s_l_kinds) f cdv A outer s H E).A := hr0
  exact (ss_cons (s_set (i := 1) nd rfl (by first | exact Or.inl rfl | exact Or.inr rfl) (e_fz (n_lst (l_cons (e_isVo c.iv_BadName (pe_callB call_isV (by rfl) c.b_isinstance (by decide +kernel) (pa_cons (e_var (pv 0)) (pa_cons (pe_glob (v := .ref (He.ga K "BadName")) (by rfl) c.g_BadName rfl) pa_nil)))) (l_cons (e_isVo c.iv_DuplicateName (pe_callB call_isV (by rfl) c.b_isinstance (by decide +kernel) (pa_cons (e_var (pv 0)) (pa_cons (pe_glob (v := .ref (He.ga K "DuplicateName")) (by rfl) c.g_DuplicateName rfl) pa_nil)))) (l_cons (e_isVo c.iv_UnknownName (pe_callB call_isV (by rfl) c.b_isinstance (by decide +kernel) (pa_cons (e_var (pv 0)) (pa_cons (pe_glob (v := .ref (He.ga K "UnknownName")) (by rfl) c.g_UnknownName rfl) pa_nil)))) (l_cons (e_isVo c.iv_BadCount (pe_callB call_isV (by rfl) c.b_isinstance (by decide +kernel) (pa_cons (e_var (pv 0)) (pa_cons (pe_glob (v := .ref (He.ga K "BadCount")) (by rfl) c.g_BadCount rfl) pa_nil)))) l_nil)))))))
    (ss_cons (s_set (i := 1) nd rfl (by first | exact Or.inl rfl | exact Or.inr rfl) (e_bin .add (e_var (pv 1)) (e_fz (n_lst (l_cons (e_isVo c.iv_BadText (pe_callB call_isV (by rfl) c.b_isinstance (by decide +kernel) (pa_cons (e_var (pv 0)) (pa_cons (pe_glob (v := .ref (He.ga K "BadText")) (by rfl) c.g_BadText rfl) pa_nil)))) (l_cons (e_isVo c.iv_BadCell (pe_callB call_isV (by rfl) c.b_isinstance (by decide +kernel) (pa_cons (e_var (pv 0)) (pa_cons (pe_glob (v := .ref (He.ga K "BadCell")) (by rfl) c.g_BadCell rfl) pa_nil)))) (l_cons (e_isVo c.iv_BadNumber (pe_callB call_isV (by rfl) c.b_isinstance (by decide +kernel) (pa_cons (e_var (pv 0)) (pa_cons (pe_glob (v := .ref (He.ga K "BadNumber")) (by rfl) c.g_BadNumber rfl) pa_nil)))) (l_cons (e_isVo c.iv_BadLimits (pe_callB call_isV (by rfl) c.b_isinstance (by decide +kernel) (pa_cons (e_var (pv 0)) (pa_cons (pe_glob (v := .ref (He.ga K "BadLimits")) (by rfl) c.g_BadLimits rfl) pa_nil)))) l_nil))))))))
    (ss_cons (s_set (i := 1) nd rfl (by first | exact Or.inl rfl | exact Or.inr rfl) (e_bin .add (e_var (pv 1)) (e_fz (n_lst (l_cons (e_isVo c.iv_BadRing (pe_callB call_isV (by rfl) c.b_isinstance (by decide +kernel) (pa_cons (e_var (pv 0)) (pa_cons (pe_glob (v := .ref (He.ga K "BadRing")) (by rfl) c.g_BadRing rfl) pa_nil)))) (l_cons (e_isVo c.iv_Barred (pe_callB call_isV (by rfl) c.b_isinstance (by decide +kernel) (pa_cons (e_var (pv 0)) (pa_cons (pe_glob (v := .ref (He.ga K "Barred")) (by rfl) c.g_Barred rfl) pa_nil)))) (l_cons (e_isVo c.iv_NoWhole (pe_callB call_isV (by rfl) c.b_isinstance (by decide +kernel) (pa_cons (e_var (pv 0)) (pa_cons (pe_glob (v := .ref (He.ga K "NoWhole")) (by rfl) c.g_NoWhole rfl) pa_nil)))) (l_cons (e_isVo c.iv_Shut (pe_callB call_isV (by rfl) c.b_isinstance (by decide +kernel) (pa_cons (e_var (pv 0)) (pa_cons (pe_glob (v := .ref (He.ga K "Shut")) (by rfl) c.g_Shut rfl) pa_nil)))) l_nil))))))))
    (ss_cons (s_set (i := 1) nd rfl (by first | exact Or.inl rfl | exact Or.inr rfl) (e_bin .add (e_var (pv 1)) (e_fz (n_lst (l_cons (e_isVo c.iv_NotBarred (pe_callB call_isV (by rfl) c.b_isinstance (by decide +kernel) (pa_cons (e_var (pv 0)) (pa_cons (pe_glob (v := .ref (He.ga K "NotBarred")) (by rfl) c.g_NotBarred rfl) pa_nil)))) (l_cons (e_isVo c.iv_UnlikeLayouts (pe_callB call_isV (by rfl) c.b_isinstance (by decide +kernel) (pa_cons (e_var (pv 0)) (pa_cons (pe_glob (v := .ref (He.ga K "UnlikeLayouts")) (by rfl) c.g_UnlikeLayouts rfl) pa_nil)))) (l_cons (e_isVo c.iv_AllDrawn (pe_callB call_isV (by rfl) c.b_isinstance (by decide +kernel) (pa_cons (e_var (pv 0)) (pa_cons (pe_glob (v := .ref (He.ga K "AllDrawn")) (by rfl) c.g_AllDrawn rfl) pa_nil)))) l_nil)))))))
    (ss_one (s_ret (e_bin .add (e_var (pv 1)) (e_fz (n_lst (l_cons (e_isVo c.iv_NothingToUndo (pe_callB call_isV (by rfl) c.b_isinstance (by decide +kernel) (pa_cons (e_var (pv 0)) (pa_cons (pe_glob (v := .ref (He.ga K "NothingToUndo")) (by rfl) c.g_NothingToUndo rfl) pa_nil)))) l_nil))))))))))
abbrev s_l_stands : Stmt := (top 26)
theorem sc_l_stands : FnScope n_l_stands ["_law_e", "_law_way"] (defScope s_l_stands) := ⟨rfl, rfl, rfl, by decide +kernel, rfl, by decide +kernel, by decide +kernel⟩
theorem walk_l_stands {P : Program} {w : World} {K : PySem.W.Frag} {mg : Str → Option Value} {base : Heap} {f : Addr} (c : Fx K mg) (k_l_kinds : Know P w K mg base 1 "_law_kinds" ["_law_e"] sp_l_kinds) (cdv : Value) (A : Around) (outer : List PySem.Env) (s : Shared) (H : Hp) (E : XK) (B : Bs) (hr0 : Room 1 (A.deeper (envOfC "_law_stands" (defScope s_l_stands) s.heap.objs.size f cdv))) :
    PSs (cxOf (L2N.CX P w) P w K mg base n_l_stands "_law_stands" (defScope s_l_stands) f cdv A outer s H E) (defBody s_l_stands) (tS K none B (fun cls d _ H => E cls d H) w_l_stands) := by
  have nd := sc_l_stands.nd
  have tk : L2N.Takes (cxOf (L2N.CX P w) P w K mg base n_l_stands "_law_stands" (defScope s_l_stands) f cdv A outer s H E) (fun cls d _ H => E cls d H) := L2N.takes_of rfl rfl rfl rfl
  have po : PassesOwn (model P w) _ _ _ := passes_of (X := cxOf (L2N.CX P w) P w K mg base n_l_stands "_law_stands" (defScope s_l_stands) f cdv A outer s H E) rfl
  have hr : Room 1 (cxOf (L2N.CX P w) P w K mg base n_l_stands "_law_stands" (defScope s_l_stands) f cdv A outer s H E).A := hr0
  exact (ss_cons (s_if (PW.pt (p_or (t_not (t_bl (e_isVo c.iv_MixError (pe_callB call_isV (by rfl) c.b_isinstance (by decide +kernel) (pa_cons (e_var (pv 0)) (pa_cons (pe_glob (v := .ref (He.ga K "MixError")) (by rfl) c.g_MixError rfl) pa_nil)))))) (p_or1 (t_not (t_bl (e_isVt c.iv_ValueError (pe_callB call_isV (by rfl) c.b_isinstance (by decide +kernel) (pa_cons (e_var (pv 0)) (pa_cons (pe_bltn (v := .ty "ValueError") (by rfl) c.b_ValueError (by decide +kernel) rfl) pa_nil))))))))) (ss_one (s_ret (e_bl pe_bl))) ss_nil)
    (ss_one (s_ret (e_cm (c_eq (hu9 hr)) (e_kn k_l_kinds hr (by decide) tk (l_cons (e_var (pv 0)) l_nil)) (e_fz (n_comp (own := [("_law_k", 2)]) rfl nd (i_range1 (pi_range1 (by rfl) c.b_range (l_cons e_int l_nil))) (blkOk_by (N := n_l_stands) (sc := defScope s_l_stands) (by decide +kernel)) (fun _ _ _ _ _ => (pg_name (i := 2) nd rfl (by first | exact Or.inl rfl | exact Or.inr rfl))) (g_name) (fun _ _ _ _ _ _ => ts_nil) (fun _ _ _ _ _ _ => (e_cm (c_eq (hu9 hr)) (e_var (pv 2)) (e_var (pv 1)) (nomark _))))) (nomark _)))))
abbrev s_law : Stmt := (top 27)
theorem sc_law : FnScope n_law ["_law_script"] (defScope s_law) := ⟨rfl, rfl, rfl, by decide +kernel, rfl, by decide +kernel, by decide +kernel⟩
theorem walk_law {P : Program} {w : World} {K : PySem.W.Frag} {mg : Str → Option Value} {base : Heap} {f : Addr} (c : Fx K mg) (k_l_start : Know P w K mg base 1 "_law_start" ["_law_script"] sp_l_start) (k_l_draw : Know P w K mg base 1 "_law_draw" ["_law_state", "_law_size"] sp_l_draw) (k_l_thing : Know P w K mg base 2 "_law_thing" ["_law_state"] sp_l_thing) (k_l_named : Know P w K mg base 3 "_law_named" ["_law_way", "_law_thing_here"] sp_l_named) (k_l_made : Know P w K mg base 3 "_law_made" ["_law_way", "_law_thing_here"] sp_l_made) (k_l_field : Know P w K mg base 1 "_law_field" ["_law_way", "_law_e"] sp_l_field) (k_l_stands : Know P w K mg base 2 "_law_stands" ["_law_e", "_law_way"] sp_l_stands) (k_AllDrawn : KnowE0 P w K mg base "AllDrawn") (k_NotBarred : KnowE0 P w K mg base "NotBarred") (k_NothingToUndo : KnowE0 P w K mg base "NothingToUndo") (k_UnlikeLayouts : KnowE0 P w K mg base "UnlikeLayouts") (cdv : Value) (A : Around) (outer : List PySem.Env) (s : Shared) (H : Hp) (E : XK) (B : Bs) (hg0 : A.guards = some []) (hr0 : Room 3 (A.deeper (envOfC "law" (defScope s_law) s.heap.objs.size f cdv))) :
    PSs (cxOf (L2N.CX P w) P w K mg base n_law "law" (defScope s_law) f cdv A outer s H E) (defBody s_law) (tS K none B (fun cls d _ H => E cls d H) w_law) := by
  have nd := sc_law.nd
  have tk : L2N.Takes (cxOf (L2N.CX P w) P w K mg base n_law "law" (defScope s_law) f cdv A outer s H E) (fun cls d _ H => E cls d H) := L2N.takes_of rfl rfl rfl rfl
  have po : PassesOwn (model P w) _ _ _ := passes_of (X := cxOf (L2N.CX P w) P w K mg base n_law "law" (defScope s_law) f cdv A outer s H E) rfl
  have hr : Room 3 (cxOf (L2N.CX P w) P w K mg base n_law "law" (defScope s_law) f cdv A outer s H E).A := hr0
  have hgd : (cxOf (L2N.CX P w) P w K mg base n_law "law" (defScope s_law) f cdv A outer s H E).A.guards = some [] := hg0
  exact (ss_cons (s_set (i := 1) nd rfl (by first | exact Or.inl rfl | exact Or.inr rfl) (e_kn k_l_start hr (by decide) tk (l_cons (e_var (pv 0)) l_nil)))
    (ss_cons (s_for po rfl (i_range1 (pi_range1 (by rfl) c.b_range (l_cons e_int l_nil))) (pg_name (i := 2) nd rfl (by first | exact Or.inl rfl | exact Or.inr rfl)) (vs := [2]) (g_name) (ss_cons (s_set (i := 3) nd rfl (by first | exact Or.inl rfl | exact Or.inr rfl) (e_kn k_l_draw hr (by decide) tk (l_cons (e_var (pv 1)) (l_cons e_int l_nil))))
    (ss_cons (s_set (i := 4) nd rfl (by first | exact Or.inl rfl | exact Or.inr rfl) (e_kn k_l_thing hr (by decide) tk (l_cons (e_var (pv 1)) l_nil)))
    (ss_one (s_for po rfl (i_val (e_fz (n_lst (l_cons (e_kn k_l_made hr (by decide) tk (l_cons (e_var (pv 3)) (l_cons (e_var (pv 4)) l_nil))) (l_cons (e_kn k_l_named hr (by decide) tk (l_cons (e_var (pv 3)) (l_cons (e_var (pv 4)) l_nil))) l_nil))))) (pg_name (i := 5) nd rfl (by first | exact Or.inl rfl | exact Or.inr rfl)) (vs := [5]) (g_name) (ss_cons (s_if (PW.pt (p_or (t_not (t_bl (e_kn k_l_stands hr (by decide) tk (l_cons (e_var (pv 5)) (l_cons (e_var (pv 3)) l_nil))))) (p_or1 (t_cm (c_ne (hu9 hr)) (e_call (pe_callB (b_reprD c.sys hgd (hu60 hr)) (by rfl) c.b_repr (by decide +kernel) (l_cons (e_kn k_l_field hr (by decide) tk (l_cons (e_var (pv 3)) (l_cons (e_var (pv 5)) l_nil))) l_nil))) (e_call (pe_callB (b_reprD c.sys hgd (hu60 hr)) (by rfl) c.b_repr (by decide +kernel) (l_cons (e_var (pv 4)) l_nil))) (nomark _))))) (ss_one (s_ret (e_bl pe_bl))) ss_nil)
    (ss_cons (s_if (t_bl (e_isi "list" (by decide) (pe_callB call_isi (by rfl) c.b_isinstance (by decide +kernel) (pa_cons (e_var (pv 4)) (pa_cons (pe_bltn (v := .ty "list") (by rfl) c.b_list (by decide +kernel) rfl) pa_nil))))) (ss_one (s_expr (e_bm ty_lst (pe_bm PySem.F.plainAttrs_list PySem.F.slot_list_append PySem.F.type_list_append m_append (e_var (pv 4)) (l_cons (e_var (pv 3)) l_nil))))) ss_nil)
    (ss_cons (s_if (t_bl (e_isi "dict" (by decide) (pe_callB call_isi (by rfl) c.b_isinstance (by decide +kernel) (pa_cons (e_var (pv 4)) (pa_cons (pe_bltn (v := .ty "dict") (by rfl) c.b_dict (by decide +kernel) rfl) pa_nil))))) (ss_one (s_put (hu_of hr) (e_var (pv 4)) (e_bin .add e_str (e_call (pe_callTy b_str (by rfl) c.b_str (by decide +kernel) (l_cons (e_call (pe_callB b_len (by rfl) c.b_len PySem.boot_len (l_cons (e_var (pv 4)) l_nil))) l_nil)))) (e_var (pv 3)))) ss_nil)
    (ss_cons (s_if (PW.pt (p_and (t_bl (e_isi "tuple" (by decide) (pe_callB call_isi (by rfl) c.b_isinstance (by decide +kernel) (pa_cons (e_var (pv 4)) (pa_cons (pe_bltn (v := .ty "tuple") (by rfl) c.b_tuple (by decide +kernel) rfl) pa_nil))))) (p_and1 (t_cmX (c_eqX (hu9 hr)) (e_sl (e_var (pv 4)) (o_pt (e_neg e_int)) o_no) (e_tup (l_cons (e_fz (n_lst l_nil)) l_nil)) (nomark _))))) (ss_one (s_expr (e_bm ty_lst (pe_bm PySem.F.plainAttrs_list PySem.F.slot_list_append PySem.F.type_list_append m_append (e_ix (hu_of hr) (e_var (pv 4)) (e_neg e_int)) (l_cons (e_var (pv 3)) l_nil))))) ss_nil)
    (ss_one (s_if (t_cm (c_ne (hu9 hr)) (e_call (pe_callB (b_reprD c.sys hgd (hu60 hr)) (by rfl) c.b_repr (by decide +kernel) (l_cons (e_kn k_l_field hr (by decide) tk (l_cons (e_var (pv 3)) (l_cons (e_var (pv 5)) l_nil))) l_nil))) (e_call (pe_callB (b_reprD c.sys hgd (hu60 hr)) (by rfl) c.b_repr (by decide +kernel) (l_cons (e_var (pv 4)) l_nil))) (nomark _)) (ss_one (s_ret (e_bl pe_bl))) ss_nil)))))))))))
    (ss_cons (s_if (PW.pt (p_or (t_not (t_bl (e_kn k_l_stands hr (by decide) tk (l_cons (e_mkE0 k_NotBarred hr (by decide)) (l_cons e_int l_nil))))) (p_or (t_not (t_bl (e_kn k_l_stands hr (by decide) tk (l_cons (e_mkE0 k_UnlikeLayouts hr (by decide)) (l_cons e_int l_nil))))) (p_or1 (t_not (t_bl (e_kn k_l_stands hr (by decide) tk (l_cons (e_mkE0 k_AllDrawn hr (by decide)) (l_cons e_int l_nil))))))))) (ss_one (s_ret (e_bl pe_bl))) ss_nil)
    (ss_one (s_ret (e_kn k_l_stands hr (by decide) tk (l_cons (e_mkE0 k_NothingToUndo hr (by decide)) (l_cons e_int l_nil))))))))
end K02
set_option maxHeartbeats 1000000
namespace WM
open PySem PySem.Spec PyProof.Rows L2
section
variable {X : Cx}
theorem pget_list : PGet X (rIxL X.K) := by
  intro pins s σ H x y v u Q I rx ry h
  obtain ⟨p, xs, i, z, rfl, rfl, hq, he, q⟩ := h
  cases rx
  obtain ⟨t, rfl⟩ := ry
  obtain ⟨its, r, pl, hz⟩ := I.list hq
  obtain ⟨j, h1, h2, h3, h4, h5⟩ := atI_get he
  obtain ⟨w, ew, rw'⟩ := r.get h2
  have hl := r.length
  have hn := line63
  have fin : EP X pins σ Q w s := ⟨z, H, I, rw', q⟩
  by_cases h0 : 0 ≤ i
  · have hj : i.toNat = j := by
      rw [seqIndex_of h0 h5] at h1
      exact Option.some.inj h1
    exact wpAny_getItem_list pl.isList h0 (by omega) (by rw [hj]; simpa using ew) fin
  · have hj : (i + (its.toArray.size : Int)).toNat = j := by
      rw [seqIndex_neg (by omega) h4] at h1
      rw [List.size_toArray, ← hl]
      exact Option.some.inj h1
    exact wpAny_getItem_list_neg pl.isList (by omega) (by rw [List.size_toArray] <;> omega) (by omega) (by rw [hj]; simpa using ew) fin
end
theorem StO.p0 {H : Hp} {p a0 a1 : Addr} {ns ms : List Int} {n : Int} (h : StO H p a0 a1 ns ms n) : p ≠ a0 := ne_of h.h h.h0 (fun z => by cases ns <;> simp at z)
theorem StO.p1 {H : Hp} {p a0 a1 : Addr} {ns ms : List Int} {n : Int} (h : StO H p a0 a1 ns ms n) : p ≠ a1 := ne_of h.h h.h1 (fun z => by cases ms <;> simp at z)
theorem ints_dp {K : PySem.W.Frag} {H : Hp} : ∀ ns : List Int, DpAll K H (ns.map .int) (ns.map .int)
  | [] => .nil
  | n :: ns => .cons (.int n) (ints_dp ns)
theorem ints_shaped (ns : List Int) : SeqAt.shaped (.list (ns.map .int)) = true := by
  have h1 : PyData.canLayAll0 (ns.map PyData.int) = true := by
    induction ns with
    | nil => rfl
    | cons a r ih => simp [PyData.canLayAll0, PyData.canLay0, ih]
  have h2 : PyData.depthAll (ns.map PyData.int) = 0 := by
    induction ns with
    | nil => rfl
    | cons a r ih => simp [PyData.depthAll, PyData.depth, ih (by simpa [PyData.canLayAll0, PyData.canLay0] using h1)]
  unfold SeqAt.shaped
  simp only [PyData.canLay0, PyData.depth, h1, h2, Bool.true_and]
  decide
theorem eqv_nil (ns : List Int) : PyData.eqv (.list (ns.map .int)) (.list []) = ns.isEmpty := by
  cases ns <;> rfl
/-- what a draw leaves of the heap -/
structure DrF (H : Hp) (p a0 : Addr) (H' : Hp) (a0' : Addr) : Prop where
  k : ∀ b, b ≠ p → b ≠ a0 → H b ≠ none → H' b = H b
  g : H' a0 ≠ none
  a : a0' = a0 ∨ H a0' = none
section
variable {H H' : Hp} {p a0 a0' a1 l : Addr} {ns ms : List Int} {n : Int} {o : HO}
theorem StO.new (h : StO H p a0 a1 ns ms n) (hl : H l = none) : StO (upd H l o) p a0 a1 ns ms n :=
  ⟨by rw [upd_ne (ne_of_none h.h hl)]; exact h.h, by rw [upd_ne (ne_of_none h.h0 hl)]; exact h.h0, by rw [upd_ne (ne_of_none h.h1 hl)]; exact h.h1, h.e, h.l, h.n0, h.d⟩
theorem DrF.new (h : DrF H p a0 H' a0') (hl : H' l = none) : DrF H p a0 (upd H' l o) a0' :=
  ⟨fun b h1 h2 h3 => by rw [upd_ne (fun z => by have := h.k b h1 h2 h3; rw [z, hl] at this; rw [z] at h3; exact h3 this.symm)]; exact h.k b h1 h2 h3,
    by rw [upd_ne (fun z => h.g (by rw [z]; exact hl))]; exact h.g, h.a⟩
theorem StO.setN (h : StO H p a0 a1 ns ms n) {k : Int} (hk : 0 ≤ k) : StO (upd H p (.lst [.ref a0, .ref a1, .int k])) p a0 a1 ns ms k :=
  ⟨upd_same, by rw [upd_ne h.p0.symm]; exact h.h0, by rw [upd_ne h.p1.symm]; exact h.h1, h.e, h.l, hk, h.d⟩
theorem DrF.first (h : StO H p a0 a1 ns ms n) (u : HO) : DrF H p a0 (upd H p u) a0 := ⟨fun b h1 _ _ => upd_ne h1, by rw [upd_ne h.p0.symm, h.h0]; simp, .inl rfl⟩
theorem StO.setL (h : StO H p a0 a1 ns ms n) {ns' : List Int} (hl : H l = none) : StO (upd (upd H l (.lst (ns'.map .int))) p (.lst [.ref l, .ref a1, .int n])) p l a1 ns' ms n := by
  have n1 := ne_of_none h.h hl
  have n2 := ne_of_none h.h1 hl
  refine ⟨upd_same, by rw [upd_ne n1.symm, upd_same], by rw [upd_ne h.p1.symm, upd_ne n2]; exact h.h1, h.e, h.l, h.n0, n2.symm⟩
theorem DrF.setL {k : Int} {ks : List Int} (g : DrF H p a0 H' a0') (h : StO H p a0 a1 ks ms k) (hs : StO H' p a0' a1 ns ms n) (hl : H' l = none) (u v : HO) : DrF H p a0 (upd (upd H' l v) p u) l := by
  have g' := g.new (l := l) (o := v) hl
  refine ⟨fun b h1 h2 h3 => by rw [upd_ne h1]; exact g'.k b h1 h2 h3, by rw [upd_ne h.p0.symm]; exact g'.g, .inr ?_⟩
  cases e : H l with
  | none => rfl
  | some o =>
    exfalso
    by_cases h1 : l = p
    · rw [h1, hs.h] at hl; cases hl
    · by_cases h2 : l = a0
      · exact g.g (h2 ▸ hl)
      · have := g.k l h1 h2 (by rw [e]; simp)
        rw [hl, e] at this; cases this
end
section
variable {H H' : Hp} {p a0 a0' a1 l : Addr} {ns ms : List Int} {n : Int}
theorem StO.setI (h : StO H p a0 a1 ns ms n) {ns' : List Int} : StO (upd H a0 (.lst (ns'.map .int))) p a0 a1 ns' ms n :=
  ⟨by rw [upd_ne h.p0]; exact h.h, upd_same, by rw [upd_ne h.d.symm]; exact h.h1, h.e, h.l, h.n0, h.d⟩
theorem DrF.setI (g : DrF H p a0 H' a0') (u : HO) : DrF H p a0 (upd H' a0' u) a0' := by
  refine ⟨fun b h1 h2 h3 => ?_, ?_, g.a⟩
  · rw [upd_ne (fun z => ?_)]
    · exact g.k b h1 h2 h3
    · rcases g.a with e | e
      · exact h2 (z.trans e)
      · rw [z] at h3; exact h3 e
  · by_cases e : a0 = a0'
    · rw [← e, upd_same]; simp
    · rw [upd_ne e]; exact g.g
theorem atI_map (ns : List Int) (x : Int) (r : List Int) (h : ns = x :: r) : atI (ns.map V.int) 0 = some (.int x) := by subst h; exact atI_nat (j := 0) rfl
end
theorem while_by2 {c : TT} {tb : TS} {D : Ends} {σ : L2.St} {H : Hp} (Pv : L2.St → Hp → Prop) (μ : L2.St → Hp → Nat) (h0 : Pv σ H) (Pe : L2.St → Hp → Prop)
    (hs : ∀ σ H, Pv σ H → c σ H fun b H1 => if b = true then tb { D with nx := fun σ' H' => Pv σ' H' ∧ μ σ' H' < μ σ H, ct := fun σ' H' => Pv σ' H' ∧ μ σ' H' < μ σ H, bk := D.nx } σ H1 else Pe σ H1)
    (hd : ∀ σ H, Pe σ H → D.nx σ H) (mono : ∀ σ H Q Q', (∀ b H1, Q b H1 → Q' b H1) → c σ H Q → c σ H Q') : tWhile c tb D σ H :=
  while_by Pv μ h0 (fun σ H hp => mono _ _ _ _ (fun b H1 q => by
    cases b with
    | true => exact q
    | false => exact hd _ _ q) (hs σ H hp)) mono
theorem cut1 (x : V) (r : List V) : cutV (x :: r) (some 1) none = r := by
  unfold cutV
  have e : HT.sIx (x :: r).length 0 (some 1) = 1 := by
    show (if (1 : Int) < 0 then ((1 : Int) + ((x :: r).length : Int)).toNat else min (1 : Int).toNat (x :: r).length) = 1
    rw [if_neg (by decide)]
    show min 1 (r.length + 1) = 1
    omega
  rw [e]
  show (r.take ((r.length + 1) - 1)) = r
  rw [Nat.add_sub_cancel, List.take_length]
theorem ixN0 (x : Int) (r : List Int) : ixN ((x :: r).map V.int).length 0 = some 0 := by
  unfold ixN
  rw [if_pos (by decide), if_pos (by simp)]; rfl
def MoE (t : TE) : Prop := ∀ σ H (Q Q' : VK), (∀ v H', Q v H' → Q' v H') → t σ H Q → t σ H Q'
def MoT (t : TT) : Prop := ∀ σ H (Q Q' : Bool → Hp → Prop), (∀ v H', Q v H' → Q' v H') → t σ H Q → t σ H Q'
def MoR (t : R2) : Prop := ∀ x y H (Q Q' : VK), (∀ v H', Q v H' → Q' v H') → t x y H Q → t x y H Q'
theorem moVar (i : Nat) : MoE (tVar i) := fun _ _ _ _ k ⟨v, h, q⟩ => ⟨v, h, k _ _ q⟩
theorem moC (v : V) : MoE (tC v) := fun _ _ _ _ k q => k _ _ q
theorem moOp {r : R2} {a b : TE} (hr : MoR r) (ha : MoE a) (hb : MoE b) : MoE (tOp r a b) := fun _ _ _ _ k q => ha _ _ _ _ (fun _ _ q => hb _ _ _ _ (fun _ _ q => hr _ _ _ _ _ k q) q) q
theorem moIx {K : PySem.W.Frag} : MoR (rIxL K) := fun _ _ _ _ _ k ⟨p, xs, i, v, e1, e2, e3, e4, q⟩ => ⟨p, xs, i, v, e1, e2, e3, e4, k _ _ q⟩
theorem moNe {K : PySem.W.Frag} : MoR (rNeD K) := fun _ _ _ _ _ k ⟨p, xs, e1, e2, e3, e4, q⟩ => ⟨p, xs, e1, e2, e3, e4, k _ _ q⟩
theorem moEq : MoR rEq := fun _ _ _ _ _ k ⟨e1, q⟩ => ⟨e1, k _ _ q⟩
theorem moL0 : MoE (tLst tNil) := fun _ _ _ _ k ⟨h, q⟩ => ⟨h, fun p hp => k _ _ (q p hp)⟩
theorem moTest {t : TE} (h : MoE t) : MoT (tTest t) := fun _ _ _ _ k q => h _ _ _ _ (fun _ _ ⟨b, e, q⟩ => ⟨b, e, k _ _ q⟩) q
theorem moAnd {t u : TT} (h : MoT t) (h' : MoT u) : MoT (tAnd t u) := fun _ _ _ _ k q => h _ _ _ _ (fun b _ q => by
  cases b with
  | true => exact h' _ _ _ _ k q
  | false => exact k _ _ q) q
theorem Kp.refl {H : Hp} : Kp H H := fun _ _ h => h
theorem Kp.upd {H H' : Hp} {l : Addr} {o : HO} (k : Kp H H') (h : H' l = none) : Kp H (upd H' l o) := fun b u e => by rw [upd_ne (ne_of_none (k b u e) h)]; exact k b u e
theorem Kp.trans {H H1 H2 : Hp} (k : Kp H H1) (k' : Kp H1 H2) : Kp H H2 := fun b o h => k' b o (k b o h)
theorem Kp.non {H H' : Hp} {l : Addr} (k : Kp H H') (h : H' l = none) : H l = none := by
  cases e : H l with
  | none => rfl
  | some o => rw [k l o e] at h; cases h
theorem Kp.eq {H H' : Hp} (k : Kp H H') : ∀ b, H b ≠ none → H' b = H b := fun b hb => by
  cases e : H b with
  | none => exact absurd e hb
  | some o => exact k b o e
theorem sqL_keep {K : PySem.W.Frag} {H H' : Hp} {a : Addr} {xs : List V} (h : SqL K H a xs) (k : ∀ b, H b ≠ none → H' b = H b) : SqL K H' a xs := by
  rcases h with (h | ⟨ob, h⟩) | h
  · exact .inl (.inl (by rw [k a (by rw [h]; simp)]; exact h))
  · exact .inl (.inr ⟨ob, by rw [k a (by rw [h]; simp)]; exact h⟩)
  · exact .inr h
end WM
set_option maxHeartbeats 1000000
namespace K02
open PySem PySem.Spec PyProof.Rows L2 WM
abbrev FnP (K : PySem.W.Frag) (x : Str) (st : Stmt) (f : Addr) (fd : FuncData) : Prop := FunD K x x (defArgs st) (defBody st) (defScope st) [] [] f fd
abbrev sDraw : Stmt := top 20
abbrev nDraw : List Str := ["_law_state", "_law_size", "_law_digit", "_law_cell", "_law_one"]
theorem scD : FnScope nDraw ["_law_state", "_law_size"] (defScope sDraw) := ⟨rfl, rfl, rfl, by decide +kernel, rfl, by decide +kernel, by decide +kernel⟩
section
variable {P : Program} {w : World} {K : PySem.W.Frag} {mg : Str → Option Value} {base : Heap} {f : Addr} {fd : FuncData}
theorem ok_draw (F : FnP K "_law_draw" sDraw f fd) (gI : mg "int" = none) (gL : mg "len" = none) : FnOk P w K mg base (L2N.CX P w) 1 f fd ["_law_state", "_law_size"] spDraw := by
  refine F.ok scD (fun vs H Q E h => ?_) (fun cdv A outer s H vs Q E hr h => ?_)
  · obtain ⟨p, a0, a1, ns, ms, n, m, rfl, _⟩ := h; rfl
  have nd := scD.nd
  have ixS : ∀ {X : Cx}, True := fun {_} => trivial
  refine ⟨_, PSs.nox (pss_cons (ps_augS (pv 0) pe_int pget_list pe_int ip_add set_list)
    (pss_cons (ps_while PassesOwn.never (PW.pt (pw_and (pt_cmpR (op_neD hr.units) (pe_ix ix_list (pv 0) pe_int (fun _ _ => rfl)) (pe_lst pa_nil) (nomark _))
        (pw_and1 (pt_cmpR op_eq (pe_ix ix_list (pe_ix ix_list (pv 0) pe_int (fun _ _ => rfl)) pe_int (fun _ _ => rfl)) pe_int (nomark _)))))
      (pss_one (ps_asg (pe_slice sl_list (pe_ix ix_list (pv 0) pe_int (fun _ _ => rfl)) (po_some pe_int) po_none) (pg_sub (pv 0) pe_int set_list))))
    (pss_cons (ps_if (pt_cmpR (op_neD hr.units) (pe_ix ix_list (pv 0) pe_int (fun _ _ => rfl)) (pe_lst pa_nil) (nomark _))
      (pss_cons (ps_set (i := 2) nd rfl (Or.inl rfl) (pe_op op_mod (pe_callTy call_int1 (by rfl) gI (by decide +kernel) (pa_cons (pe_ix ix_list (pe_ix ix_list (pv 0) pe_int (fun _ _ => rfl)) pe_int (fun _ _ => rfl)) pa_nil)) (pv 1)))
      (pss_cons (ps_asg (pe_op op_fdiv (pe_ix ix_list (pe_ix ix_list (pv 0) pe_int (fun _ _ => rfl)) pe_int (fun _ _ => rfl)) (pv 1)) (pg_sub (pe_ix ix_list (pv 0) pe_int (fun _ _ => rfl)) pe_int set_list))
      (pss_one (ps_ret (pv 2))))) pss_nil)
    (pss_cons (ps_set (i := 3) nd rfl (Or.inl rfl) (pe_op op_mod (pe_callTy call_int1 (by rfl) gI (by decide +kernel) (pa_cons (pe_ix ix_list (pe_ix ix_list (pv 0) pe_int (fun _ _ => rfl))
        (pe_op op_mod (pe_callTy call_int1 (by rfl) gI (by decide +kernel) (pa_cons (pe_ix ix_list (pv 0) pe_int (fun _ _ => rfl)) pa_nil)) (pe_callB call_len_seq (by rfl) gL PySem.boot_len (pa_cons (pe_ix ix_list (pv 0) pe_int (fun _ _ => rfl)) pa_nil))) (fun _ _ => rfl)) pa_nil)) pe_int))
    (pss_cons (ps_set (i := 4) nd rfl (Or.inl rfl) (pe_op op_mod (pe_callTy call_int1 (by rfl) gI (by decide +kernel) (pa_cons (pe_op op_pow (pe_op op_add (pe_op op_add (pe_op op_mul (pv 3) pe_int) (pe_op op_mul (pe_ix ix_list (pv 0) pe_int (fun _ _ => rfl)) pe_int)) pe_int) pe_int) pa_nil)) pe_int))
    (pss_one (ps_ret (pe_op op_mod (pe_op op_fdiv (pe_op op_mod (pe_callTy call_int1 (by rfl) gI (by decide +kernel) (pa_cons (pe_op op_pow (pe_op op_add (pe_op op_add (pe_op op_mul (pv 4) pe_int) (pe_op op_mul (pe_ix ix_list (pv 0) pe_int (fun _ _ => rfl)) pe_int)) pe_int) pe_int) pa_nil)) pe_int) pe_int) (pv 1))))))))), ?_⟩
  obtain ⟨p, a0, a1, ns, ms, n, m, rfl, h, hn, hm0, hm1, q⟩ := h
  refine ⟨_, rfl, p, _, 2, .int n, rfl, rfl, SqL.of h.h, rfl, n, 1, rfl, rfl, p, _, 2, 2, rfl, rfl, h.h, rfl, ?_⟩
  have h' : StO (upd H p (.lst [.ref a0, .ref a1, .int (n + 1)])) p a0 a1 ns ms (n + 1) := h.setN (by have := h.n0; omega)
  have g' := DrF.first h (.lst [.ref a0, .ref a1, .int (n + 1)])
  refine while_by2 (fun σ' H' => σ' = start nDraw [.ref p, .int m] ∧ ∃ b0 ns', StO H' p b0 a1 ns' ms (n + 1) ∧ DrF H p a0 H' b0)
    (fun _ H' => match H' p with | some (.lst (.ref a :: _)) => (match H' a with | some (.lst xs) => xs.length | _ => 0) | _ => 0) ⟨rfl, a0, ns, h', g'⟩
    (fun σ' H' => σ' = start nDraw [.ref p, .int m] ∧ ∃ b0 ns', StO H' p b0 a1 ns' ms (n + 1) ∧ DrF H p a0 H' b0) ?_ ?_
    (moAnd (moTest (moOp moNe (moOp moIx (moVar 0) (moC _)) moL0)) (moTest (moOp moEq (moOp moIx (moOp moIx (moVar 0) (moC _)) (moC _)) (moC _))))
  · rintro σ1 H1 ⟨rfl, b0, ns', h1, g1⟩
    refine ⟨_, rfl, p, _, 0, .ref b0, rfl, rfl, SqL.of h1.h, rfl, (by decide : 0 ≤ sizeLine), fun l hl => ?_⟩
    have h2 := h1.new (o := .lst []) hl
    have g2 := g1.new (o := .lst []) hl
    refine ⟨.list (ns'.map .int), .list [], .lst (SqL.of h2.h0) (ints_dp _), .lst (SqL.of upd_same) .nil, ints_shaped _, by decide, _, rfl, ?_⟩
    rw [eqv_nil]
    cases e : ns' with
    | nil => exact ibF rfl (ibF rfl ⟨rfl, b0, ns', h2, g2⟩)
    | cons x r =>
      refine ibT rfl ?_
      refine ⟨_, rfl, p, _, 0, .ref b0, rfl, rfl, SqL.of h2.h, rfl, b0, _, 0, .int x, rfl, rfl, SqL.of h2.h0, atI_map _ _ _ e, rfl, _, rfl, ?_⟩
      by_cases hx : x = 0
      · subst hx
        refine ibT (decide_eq_true rfl) ?_
        refine ⟨_, rfl, p, _, 0, .ref b0, rfl, rfl, SqL.of h2.h, rfl, 1, rfl, b0, _, rfl, SqL.of h2.h0, fun l2 hl2 => ?_⟩
        have ec : cutV (ns'.map V.int) (some 1) none = r.map V.int := by
          rw [e]; exact cut1 _ _
        rw [ec]
        have h3 := h2.setL (ns' := r) hl2
        have g3 := g2.setL h h2 hl2 (.lst [.ref l2, .ref a1, .int (n + 1)]) (.lst (r.map .int))
        have h2' := h2.new (o := .lst (r.map .int)) hl2
        refine ⟨_, rfl, p, [.ref b0, .ref a1, .int (n + 1)], 0, 0, rfl, rfl, h2'.h, rfl, ⟨rfl, l2, r, h3, g3⟩, ?_⟩
        have m3 := h3.h
        have m4 := h3.h0
        show (match upd (upd (upd H1 l (.lst [])) l2 (.lst (r.map V.int))) p (.lst [.ref l2, .ref a1, .int (n + 1)]) p with | some (.lst (.ref a :: _)) => (match upd (upd (upd H1 l (.lst [])) l2 (.lst (r.map V.int))) p (.lst [.ref l2, .ref a1, .int (n + 1)]) a with | some (.lst xs) => xs.length | _ => 0) | _ => 0) < (match H1 p with | some (.lst (.ref a :: _)) => (match H1 a with | some (.lst xs) => xs.length | _ => 0) | _ => 0)
        rw [m3, h1.h]
        show (match upd (upd (upd H1 l (.lst [])) l2 (.lst (r.map V.int))) p (.lst [.ref l2, .ref a1, .int (n + 1)]) l2 with | some (.lst xs) => xs.length | _ => 0) < (match H1 b0 with | some (.lst xs) => xs.length | _ => 0)
        rw [m4, h1.h0, e]
        show (r.map V.int).length < ((0 :: r).map V.int).length
        simp
      · exact ibF (decide_eq_false fun z => hx (by simpa using z)) ⟨rfl, b0, ns', h2, g2⟩
  · rintro σ1 H1 ⟨rfl, b0, ns', h1, g1⟩
    refine ⟨_, rfl, p, _, 0, .ref b0, rfl, rfl, SqL.of h1.h, rfl, (by decide : 0 ≤ sizeLine), fun l hl => ?_⟩
    have h2 := h1.new (o := .lst []) hl
    have g2 := g1.new (o := .lst []) hl
    refine ⟨.list (ns'.map .int), .list [], .lst (SqL.of h2.h0) (ints_dp _), .lst (SqL.of upd_same) .nil, ints_shaped _, by decide, _, rfl, ?_⟩
    rw [eqv_nil]
    cases e : ns' with
    | cons x r =>
      refine ibT rfl ?_
      have a1' := atI_map _ _ _ e
      refine ⟨_, rfl, p, _, 0, .ref b0, rfl, rfl, SqL.of h2.h, rfl, b0, _, 0, .int x, rfl, rfl, SqL.of h2.h0, a1', .inl ⟨x, rfl, _, rfl, x, m, rfl, rfl, hm0, ?_⟩⟩
      refine ⟨_, rfl, p, _, 0, .ref b0, rfl, rfl, SqL.of h2.h, rfl, b0, _, 0, .int x, rfl, rfl, SqL.of h2.h0, a1', _, rfl, x, m, rfl, rfl, ⟨hm0, hm1⟩, ?_⟩
      refine ⟨_, rfl, p, _, 0, .ref b0, rfl, rfl, SqL.of h2.h, rfl, b0, ns'.map .int, 0, 0, rfl, rfl, h2.h0, by rw [e]; exact ixN0 _ _, ?_⟩
      have hs : (ns'.map V.int).set 0 (.int (x / m)) = ((x / m) :: r).map V.int := by rw [e]; rfl
      rw [hs]
      refine ⟨_, rfl, ?_⟩
      have h3 := h2.setI (ns' := (x / m) :: r)
      have g3 := g2.setI (.lst (((x / m) :: r).map .int))
      exact q _ b0 _ _ h3 g3.a g3.k g3.g (Int.emod_nonneg _ (by omega)) (Int.emod_lt_of_pos _ hm0)
    | nil =>
      refine ibF rfl ?_
      obtain ⟨y, hy⟩ : ∃ y, atI (ms.map V.int) ((n + 1) % ((ms.map V.int).length : Int)) = some (.int y) := by
        have hp : 0 < ms.length := List.length_pos_iff.mpr h.e
        have b1 : 0 ≤ (n + 1) % (ms.length : Int) := Int.emod_nonneg _ (by omega)
        have b2 : (n + 1) % (ms.length : Int) < ms.length := Int.emod_lt_of_pos _ (by omega)
        obtain ⟨k, hk⟩ := Int.eq_ofNat_of_zero_le b1
        have hk2 : k < ms.length := by omega
        refine ⟨ms[k], ?_⟩
        rw [List.length_map, hk]
        exact atI_nat (by simp [hk2])
      refine ⟨_, rfl, p, _, 1, .ref a1, rfl, rfl, SqL.of h2.h, rfl, ?_⟩
      refine ⟨_, rfl, p, _, 2, .int (n + 1), rfl, rfl, SqL.of h2.h, rfl, .inl ⟨n + 1, rfl, ?_⟩⟩
      refine ⟨_, rfl, p, _, 1, .ref a1, rfl, rfl, SqL.of h2.h, rfl, a1, _, rfl, .inl (SqL.of h2.h1), n + 1, _, rfl, rfl, ?_, a1, _, _, _, rfl, rfl, SqL.of h2.h1, hy, .inl ⟨y, rfl, y, 2147483647, rfl, rfl, (by show (0 : Int) < 2147483647; decide), ?_⟩⟩
      · have hp : 0 < ms.length := List.length_pos_iff.mpr h.e
        simpa using hp
      have z0 : 0 ≤ y % 2147483647 := by omega
      have z1 : y % 2147483647 < 2147483647 := by omega
      have hn0 := h2.n0
      refine ⟨_, rfl, y % 2147483647, 39373, rfl, rfl, .inl ⟨by omega, by omega⟩, ?_⟩
      refine ⟨_, rfl, p, _, 2, .int (n + 1), rfl, rfl, SqL.of h2.h, rfl, n + 1, _, rfl, rfl, .inl ⟨by omega, by omega⟩, _, _, rfl, rfl, _, _, rfl, rfl, _, 5, rfl, rfl, ⟨by decide, by decide, ?_⟩, .inl ⟨_, rfl, _, 2147483647, rfl, rfl, (by show (0 : Int) < 2147483647; decide), ?_⟩⟩
      · show (y % 2147483647 * 39373 + (n + 1) * 48271 + 7).natAbs < 2 ^ 64
        omega
      generalize (y % 2147483647 * 39373 + (n + 1) * 48271 + 7) ^ Int.toNat 5 = u
      have u0 : 0 ≤ u % 2147483647 := by omega
      have u1 : u % 2147483647 < 2147483647 := by omega
      refine ⟨_, rfl, u % 2147483647, 69621, rfl, rfl, .inl ⟨by omega, by omega⟩, ?_⟩
      refine ⟨_, rfl, p, _, 2, .int (n + 1), rfl, rfl, SqL.of h2.h, rfl, n + 1, _, rfl, rfl, .inl ⟨by omega, by omega⟩, _, _, rfl, rfl, _, _, rfl, rfl, _, 5, rfl, rfl, ⟨by decide, by decide, ?_⟩, .inl ⟨_, rfl, _, 2147483629, rfl, rfl, (by show (0 : Int) < 2147483629; decide), ?_⟩⟩
      · show (u % 2147483647 * 69621 + (n + 1) * 40692 + 13).natAbs < 2 ^ 64
        omega
      generalize (u % 2147483647 * 69621 + (n + 1) * 40692 + 13) ^ Int.toNat 5 = v
      refine ⟨_, 16, rfl, rfl, ⟨(by show (0 : Int) < 16; decide), (by show (16 : Int) < 1073741824; decide)⟩, _, rfl, _, m, rfl, rfl, hm0, ?_⟩
      exact q _ b0 _ _ h2 g2.a g2.k g2.g (Int.emod_nonneg _ (by omega)) (Int.emod_lt_of_pos _ hm0)
end
abbrev sStart : Stmt := top 19
abbrev nStart : List Str := ["_law_script", "_law_cell"]
theorem scS : FnScope nStart ["_law_script"] (defScope sStart) := ⟨rfl, rfl, rfl, by decide +kernel, rfl, by decide +kernel, by decide +kernel⟩
section
variable {P : Program} {w : World} {K : PySem.W.Frag} {mg : Str → Option Value} {base : Heap} {f : Addr} {fd : FuncData}
theorem ok_start (F : FnP K "_law_start" sStart f fd) (gA : mg "abs" = none) (gL : mg "list" = none) : FnOk P w K mg base (L2N.CX P w) 1 f fd ["_law_script"] (spStart K) := by
  refine F.ok scS (fun vs H Q E h => ?_) (fun cdv A outer s H vs Q E hr h => ?_)
  · obtain ⟨a, ns, rfl, _⟩ := h; rfl
  have nd := scS.nd
  refine ⟨_, PSs.nox (pss_one (ps_ret (pe_lst (pa_cons (pe_lc (own := [("_law_cell", 1)]) (g := gName 1) rfl nd (pi_list (pv 0)) (blkOk_by (N := nStart) (sc := defScope sStart) (by decide +kernel))
      (fun _ _ _ _ _ => pg_name (i := 1) nd rfl (Or.inl rfl)) (fun _ _ _ _ _ => pts_one (pt_cmpR op_ge (pe_callB call_abs (by rfl) gA (by decide +kernel) (pa_cons (pv 1) pa_nil)) (pe_op op_pow pe_int pe_int) (nomark _)))
      (fun _ _ _ _ _ => pe_callB call_abs (by rfl) gA (by decide +kernel) (pa_cons (pv 1) pa_nil)))
    (pa_cons (pe_op op_cat (pe_callTy call_list_of (by rfl) gL (by decide +kernel) (pa_cons (pv 0) pa_nil)) (pe_lst (pa_cons pe_int pa_nil))) (pa_cons pe_int pa_nil)))))), ?_⟩
  obtain ⟨a, ns, rfl, hs, hn, q⟩ := h
  refine ⟨_, rfl, a, rfl, ⟨_, hs⟩, fun D hD => ?_⟩
  refine lc_list (xs := ns.map V.int) (fun i H1 => Kp H H1 ∧ ∃ xs : List Int, H1 D = some (.lst (xs.map V.int)) ∧ xs.length ≤ i) ?_ ?_ ?_ ?_
  · exact ⟨Kp.refl.upd hD, [], upd_same, Nat.le_refl _⟩
  · rintro i H1 _ ⟨k, _⟩
    exact sqL_keep hs k.eq
  · rintro i x H1 hx ⟨k, xs, hD1, hl⟩
    obtain ⟨j, rfl⟩ : ∃ j, x = V.int j := by
      rw [List.getElem?_map] at hx
      cases e : ns[i]? with
      | none => rw [e] at hx; cases hx
      | some j => rw [e] at hx; exact ⟨j, by cases hx; rfl⟩
    have hi : i < 63 := by
      have := (List.getElem?_eq_some_iff.mp hx).1
      simp at this; omega
    refine ⟨rfl, _, rfl, j, rfl, 10, 18, rfl, rfl, ⟨by decide, by decide, by decide⟩, _, _, rfl, rfl, _, rfl, ?_⟩
    refine ite2 (fun _ => ?_) (fun _ => ?_)
    · refine ⟨_, rfl, j, rfl, _, hD1, ?_, ?_, xs ++ [if j < 0 then -j else j], ?_, ?_⟩
      · have : xs.length < sizeLine := Nat.lt_of_le_of_lt (Nat.le_trans hl (Nat.le_of_lt hi)) (by decide)
        simpa using this
      · intro b o hb
        rw [upd_ne (ne_of_none hb hD)]; exact k b o hb
      · rw [upd_same, List.map_append]; rfl
      · simp; omega
    · exact ⟨k, xs, hD1, by omega⟩
  · rintro H1 ⟨k, xs, hD1, hl⟩
    have s1 := sqL_keep hs k.eq
    refine ⟨_, rfl, a, _, rfl, .inl s1, fun l hl1 => ⟨(by decide : 1 ≤ sizeLine), fun l2 hl2 => ?_⟩⟩
    have nl : l2 ≠ l := fun z => by rw [z, upd_same] at hl2; cases hl2
    refine ⟨l, l2, _, _, rfl, rfl, by rw [upd_ne nl.symm]; exact upd_same, upd_same, ?_, fun l3 hl3 => ?_⟩
    · have : ns.length + 1 ≤ sizeLine := Nat.le_trans (Nat.succ_le_succ hn) (by decide)
      simpa using this
    refine ⟨(by decide : 3 ≤ sizeLine), fun p hp => ?_⟩
    have k1 := (Kp.refl (H := H1)).upd (o := .lst (ns.map V.int)) hl1
    have k2 := k1.upd (o := .lst [.int 5]) hl2
    have k3 := k2.upd (o := .lst (ns.map V.int ++ [.int 5])) hl3
    have k4 := k3.upd (o := .lst [.ref D, .ref l3, .int 0]) hp
    have n3 : D ≠ l3 := ne_of_none (k2 _ _ hD1) hl3
    have hx : xs.length ≤ ns.length := by simpa using hl
    refine q _ p D l3 xs (ns ++ [5]) ⟨upd_same, k4 _ _ hD1, ?_, by simp, by simp; omega, by decide, n3⟩ (k.trans k4) ((k.trans k3).non hp) hD ((k.trans k2).non hl3)
    rw [List.map_append]
    have : upd (upd (upd H1 l (.lst (ns.map V.int))) l2 (.lst [.int 5])) l3 (.lst (ns.map V.int ++ [.int 5])) l3 = some (.lst (ns.map V.int ++ [.int 5])) := upd_same
    exact Kp.refl.upd hp _ _ this
end
end K02
set_option maxHeartbeats 4000000
namespace K02
open PySem PySem.Spec PyProof.Rows L2 WM
theorem len_l_thing (ds : List D) (S : Store) (Q : QN) (X : QX) (h : sp_l_thing ds S Q X) : ds.length = (["_law_state"] : List Str).length := by
  first
    | (obtain ⟨_, _, _, ⟨_, _, rfl, _⟩ | ⟨_, rfl, _⟩⟩ := h <;> rfl)
    | (rcases h with ⟨_, _, rfl, _⟩ | ⟨_, _, _, rfl, _⟩ <;> rfl)
    | (obtain ⟨_, rfl, _⟩ := h; rfl)
    | (obtain ⟨_, _, rfl, _⟩ := h; rfl)
    | (obtain ⟨_, _, _, rfl, _⟩ := h; rfl)
    | (obtain ⟨_, _, _, _, rfl, _⟩ := h; rfl)
    | (obtain ⟨_, _, _, _, _, rfl, _⟩ := h; rfl)
    | (obtain ⟨_, _, _, _, _, _, rfl, _⟩ := h; rfl)
    | (obtain ⟨_, _, _, _, _, _, _, rfl, _⟩ := h; rfl)
    | (obtain ⟨_, _, _, _, _, _, _, _, rfl, _⟩ := h; rfl)
    | (obtain ⟨_, _, _, _, _, _, _, _, _, rfl, _⟩ := h; rfl)
    | (obtain ⟨_, _, _, _, _, _, _, _, _, _, rfl, _⟩ := h; rfl)
    | (obtain ⟨_, _, _, _, _, _, _, _, _, _, _, rfl, _⟩ := h; rfl)
    | (obtain ⟨_, _, _, _, _, _, _, _, _, _, _, _, rfl, _⟩ := h; rfl)
    | (obtain ⟨_, _, _, _, _, _, _, _, _, _, _, _, _, rfl, _⟩ := h; rfl)
theorem len_l_made (ds : List D) (S : Store) (Q : QN) (X : QX) (h : sp_l_made ds S Q X) : ds.length = (["_law_way", "_law_thing_here"] : List Str).length := by
  first
    | (obtain ⟨_, _, _, ⟨_, _, rfl, _⟩ | ⟨_, rfl, _⟩⟩ := h <;> rfl)
    | (rcases h with ⟨_, _, rfl, _⟩ | ⟨_, _, _, rfl, _⟩ <;> rfl)
    | (obtain ⟨_, rfl, _⟩ := h; rfl)
    | (obtain ⟨_, _, rfl, _⟩ := h; rfl)
    | (obtain ⟨_, _, _, rfl, _⟩ := h; rfl)
    | (obtain ⟨_, _, _, _, rfl, _⟩ := h; rfl)
    | (obtain ⟨_, _, _, _, _, rfl, _⟩ := h; rfl)
    | (obtain ⟨_, _, _, _, _, _, rfl, _⟩ := h; rfl)
    | (obtain ⟨_, _, _, _, _, _, _, rfl, _⟩ := h; rfl)
    | (obtain ⟨_, _, _, _, _, _, _, _, rfl, _⟩ := h; rfl)
    | (obtain ⟨_, _, _, _, _, _, _, _, _, rfl, _⟩ := h; rfl)
    | (obtain ⟨_, _, _, _, _, _, _, _, _, _, rfl, _⟩ := h; rfl)
    | (obtain ⟨_, _, _, _, _, _, _, _, _, _, _, rfl, _⟩ := h; rfl)
    | (obtain ⟨_, _, _, _, _, _, _, _, _, _, _, _, rfl, _⟩ := h; rfl)
    | (obtain ⟨_, _, _, _, _, _, _, _, _, _, _, _, _, rfl, _⟩ := h; rfl)
theorem len_l_named (ds : List D) (S : Store) (Q : QN) (X : QX) (h : sp_l_named ds S Q X) : ds.length = (["_law_way", "_law_thing_here"] : List Str).length := by
  first
    | (obtain ⟨_, _, _, ⟨_, _, rfl, _⟩ | ⟨_, rfl, _⟩⟩ := h <;> rfl)
    | (rcases h with ⟨_, _, rfl, _⟩ | ⟨_, _, _, rfl, _⟩ <;> rfl)
    | (obtain ⟨_, rfl, _⟩ := h; rfl)
    | (obtain ⟨_, _, rfl, _⟩ := h; rfl)
    | (obtain ⟨_, _, _, rfl, _⟩ := h; rfl)
    | (obtain ⟨_, _, _, _, rfl, _⟩ := h; rfl)
    | (obtain ⟨_, _, _, _, _, rfl, _⟩ := h; rfl)
    | (obtain ⟨_, _, _, _, _, _, rfl, _⟩ := h; rfl)
    | (obtain ⟨_, _, _, _, _, _, _, rfl, _⟩ := h; rfl)
    | (obtain ⟨_, _, _, _, _, _, _, _, rfl, _⟩ := h; rfl)
    | (obtain ⟨_, _, _, _, _, _, _, _, _, rfl, _⟩ := h; rfl)
    | (obtain ⟨_, _, _, _, _, _, _, _, _, _, rfl, _⟩ := h; rfl)
    | (obtain ⟨_, _, _, _, _, _, _, _, _, _, _, rfl, _⟩ := h; rfl)
    | (obtain ⟨_, _, _, _, _, _, _, _, _, _, _, _, rfl, _⟩ := h; rfl)
    | (obtain ⟨_, _, _, _, _, _, _, _, _, _, _, _, _, rfl, _⟩ := h; rfl)
theorem len_l_field (ds : List D) (S : Store) (Q : QN) (X : QX) (h : sp_l_field ds S Q X) : ds.length = (["_law_way", "_law_e"] : List Str).length := by
  first
    | (obtain ⟨_, _, _, ⟨_, _, rfl, _⟩ | ⟨_, rfl, _⟩⟩ := h <;> rfl)
    | (rcases h with ⟨_, _, rfl, _⟩ | ⟨_, _, _, rfl, _⟩ <;> rfl)
    | (obtain ⟨_, rfl, _⟩ := h; rfl)
    | (obtain ⟨_, _, rfl, _⟩ := h; rfl)
    | (obtain ⟨_, _, _, rfl, _⟩ := h; rfl)
    | (obtain ⟨_, _, _, _, rfl, _⟩ := h; rfl)
    | (obtain ⟨_, _, _, _, _, rfl, _⟩ := h; rfl)
    | (obtain ⟨_, _, _, _, _, _, rfl, _⟩ := h; rfl)
    | (obtain ⟨_, _, _, _, _, _, _, rfl, _⟩ := h; rfl)
    | (obtain ⟨_, _, _, _, _, _, _, _, rfl, _⟩ := h; rfl)
    | (obtain ⟨_, _, _, _, _, _, _, _, _, rfl, _⟩ := h; rfl)
    | (obtain ⟨_, _, _, _, _, _, _, _, _, _, rfl, _⟩ := h; rfl)
    | (obtain ⟨_, _, _, _, _, _, _, _, _, _, _, rfl, _⟩ := h; rfl)
    | (obtain ⟨_, _, _, _, _, _, _, _, _, _, _, _, rfl, _⟩ := h; rfl)
    | (obtain ⟨_, _, _, _, _, _, _, _, _, _, _, _, _, rfl, _⟩ := h; rfl)
theorem len_l_kinds (ds : List D) (S : Store) (Q : QN) (X : QX) (h : sp_l_kinds ds S Q X) : ds.length = (["_law_e"] : List Str).length := by
  first
    | (obtain ⟨_, _, _, ⟨_, _, rfl, _⟩ | ⟨_, rfl, _⟩⟩ := h <;> rfl)
    | (rcases h with ⟨_, _, rfl, _⟩ | ⟨_, _, _, rfl, _⟩ <;> rfl)
    | (obtain ⟨_, rfl, _⟩ := h; rfl)
    | (obtain ⟨_, _, rfl, _⟩ := h; rfl)
    | (obtain ⟨_, _, _, rfl, _⟩ := h; rfl)
    | (obtain ⟨_, _, _, _, rfl, _⟩ := h; rfl)
    | (obtain ⟨_, _, _, _, _, rfl, _⟩ := h; rfl)
    | (obtain ⟨_, _, _, _, _, _, rfl, _⟩ := h; rfl)
    | (obtain ⟨_, _, _, _, _, _, _, rfl, _⟩ := h; rfl)
    | (obtain ⟨_, _, _, _, _, _, _, _, rfl, _⟩ := h; rfl)
    | (obtain ⟨_, _, _, _, _, _, _, _, _, rfl, _⟩ := h; rfl)
    | (obtain ⟨_, _, _, _, _, _, _, _, _, _, rfl, _⟩ := h; rfl)
    | (obtain ⟨_, _, _, _, _, _, _, _, _, _, _, rfl, _⟩ := h; rfl)
    | (obtain ⟨_, _, _, _, _, _, _, _, _, _, _, _, rfl, _⟩ := h; rfl)
    | (obtain ⟨_, _, _, _, _, _, _, _, _, _, _, _, _, rfl, _⟩ := h; rfl)
theorem len_l_stands (ds : List D) (S : Store) (Q : QN) (X : QX) (h : sp_l_stands ds S Q X) : ds.length = (["_law_e", "_law_way"] : List Str).length := by
  first
    | (obtain ⟨_, _, _, ⟨_, _, rfl, _⟩ | ⟨_, rfl, _⟩⟩ := h <;> rfl)
    | (rcases h with ⟨_, _, rfl, _⟩ | ⟨_, _, _, rfl, _⟩ <;> rfl)
    | (obtain ⟨_, rfl, _⟩ := h; rfl)
    | (obtain ⟨_, _, rfl, _⟩ := h; rfl)
    | (obtain ⟨_, _, _, rfl, _⟩ := h; rfl)
    | (obtain ⟨_, _, _, _, rfl, _⟩ := h; rfl)
    | (obtain ⟨_, _, _, _, _, rfl, _⟩ := h; rfl)
    | (obtain ⟨_, _, _, _, _, _, rfl, _⟩ := h; rfl)
    | (obtain ⟨_, _, _, _, _, _, _, rfl, _⟩ := h; rfl)
    | (obtain ⟨_, _, _, _, _, _, _, _, rfl, _⟩ := h; rfl)
    | (obtain ⟨_, _, _, _, _, _, _, _, _, rfl, _⟩ := h; rfl)
    | (obtain ⟨_, _, _, _, _, _, _, _, _, _, rfl, _⟩ := h; rfl)
    | (obtain ⟨_, _, _, _, _, _, _, _, _, _, _, rfl, _⟩ := h; rfl)
    | (obtain ⟨_, _, _, _, _, _, _, _, _, _, _, _, rfl, _⟩ := h; rfl)
    | (obtain ⟨_, _, _, _, _, _, _, _, _, _, _, _, _, rfl, _⟩ := h; rfl)
theorem len_law (ds : List D) (S : Store) (Q : QN) (X : QX) (h : sp_law ds S Q X) : ds.length = (["_law_script"] : List Str).length := by
  first
    | (obtain ⟨_, _, _, ⟨_, _, rfl, _⟩ | ⟨_, rfl, _⟩⟩ := h <;> rfl)
    | (rcases h with ⟨_, _, rfl, _⟩ | ⟨_, _, _, rfl, _⟩ <;> rfl)
    | (obtain ⟨_, rfl, _⟩ := h; rfl)
    | (obtain ⟨_, _, rfl, _⟩ := h; rfl)
    | (obtain ⟨_, _, _, rfl, _⟩ := h; rfl)
    | (obtain ⟨_, _, _, _, rfl, _⟩ := h; rfl)
    | (obtain ⟨_, _, _, _, _, rfl, _⟩ := h; rfl)
    | (obtain ⟨_, _, _, _, _, _, rfl, _⟩ := h; rfl)
    | (obtain ⟨_, _, _, _, _, _, _, rfl, _⟩ := h; rfl)
    | (obtain ⟨_, _, _, _, _, _, _, _, rfl, _⟩ := h; rfl)
    | (obtain ⟨_, _, _, _, _, _, _, _, _, rfl, _⟩ := h; rfl)
    | (obtain ⟨_, _, _, _, _, _, _, _, _, _, rfl, _⟩ := h; rfl)
    | (obtain ⟨_, _, _, _, _, _, _, _, _, _, _, rfl, _⟩ := h; rfl)
    | (obtain ⟨_, _, _, _, _, _, _, _, _, _, _, _, rfl, _⟩ := h; rfl)
    | (obtain ⟨_, _, _, _, _, _, _, _, _, _, _, _, _, rfl, _⟩ := h; rfl)
theorem xok_AllDrawn {P : Program} {w : World} {K : PySem.W.Frag} {mg : Str → Option Value} {base : Heap} {fn : Addr} {fd : FuncData} {C M : Addr} (F : FunD K "__init__" "AllDrawn.__init__" (defArgs (inClass (top 15) 0)) (defBody (inClass (top 15) 0)) (defScope (inClass (top 15) 0)) [] [] fn fd) (gm : mg "MixError" = some (.ref M)) (CM : MixC K M) (T : OexC K C) :
    FnOk P w K mg base (L2N.CX P w) 1 fn fd ["self"] (spX0 C) :=
  x0init_ok (z := "all tables are drawn") F ⟨rfl, rfl, rfl, by decide +kernel, rfl, by decide +kernel, by decide +kernel⟩ T (fun _ _ _ _ _ _ => ps_expr (pe_mixinit gm CM (pa_cons (pv 0) (pa_cons pe_str pa_nil))))
theorem xok_BadCell {P : Program} {w : World} {K : PySem.W.Frag} {mg : Str → Option Value} {base : Heap} {fn : Addr} {fd : FuncData} {C M : Addr} (F : FunD K "__init__" "BadCell.__init__" (defArgs (inClass (top 7) 0)) (defBody (inClass (top 7) 0)) (defScope (inClass (top 7) 0)) [] [] fn fd) (gm : mg "MixError" = some (.ref M)) (CM : MixC K M) (T : OexC K C) (nf : PySem.W.findIn K (.ref C) "value" = some none) :
    FnOk P w K mg base (L2N.CX P w) 1 fn fd ["self", "value"] (spXI K C "value") :=
  xinit_ok (z := "this is not a cell here") F ⟨rfl, rfl, rfl, by decide +kernel, rfl, by decide +kernel, by decide +kernel⟩ T nf (fun _ _ _ _ _ _ => ps_expr (pe_mixinit gm CM (pa_cons (pv 0) (pa_cons pe_str pa_nil)))) (fun _ _ _ _ _ _ => ps_ost (pv 0) (pv 1))
theorem xok_BadCount {P : Program} {w : World} {K : PySem.W.Frag} {mg : Str → Option Value} {base : Heap} {fn : Addr} {fd : FuncData} {C M : Addr} (F : FunD K "__init__" "BadCount.__init__" (defArgs (inClass (top 5) 0)) (defBody (inClass (top 5) 0)) (defScope (inClass (top 5) 0)) [] [] fn fd) (gm : mg "MixError" = some (.ref M)) (CM : MixC K M) (T : OexC K C) (nf : PySem.W.findIn K (.ref C) "count" = some none) :
    FnOk P w K mg base (L2N.CX P w) 1 fn fd ["self", "count"] (spXI K C "count") :=
  xinit_ok (z := "this number of items is not allowed") F ⟨rfl, rfl, rfl, by decide +kernel, rfl, by decide +kernel, by decide +kernel⟩ T nf (fun _ _ _ _ _ _ => ps_expr (pe_mixinit gm CM (pa_cons (pv 0) (pa_cons pe_str pa_nil)))) (fun _ _ _ _ _ _ => ps_ost (pv 0) (pv 1))
theorem xok_BadLimits {P : Program} {w : World} {K : PySem.W.Frag} {mg : Str → Option Value} {base : Heap} {fn : Addr} {fd : FuncData} {C M : Addr} (F : FunD K "__init__" "BadLimits.__init__" (defArgs (inClass (top 9) 0)) (defBody (inClass (top 9) 0)) (defScope (inClass (top 9) 0)) [] [] fn fd) (gm : mg "MixError" = some (.ref M)) (CM : MixC K M) (T : OexC K C) (nf : PySem.W.findIn K (.ref C) "value" = some none) :
    FnOk P w K mg base (L2N.CX P w) 1 fn fd ["self", "value"] (spXI K C "value") :=
  xinit_ok (z := "these are not limits") F ⟨rfl, rfl, rfl, by decide +kernel, rfl, by decide +kernel, by decide +kernel⟩ T nf (fun _ _ _ _ _ _ => ps_expr (pe_mixinit gm CM (pa_cons (pv 0) (pa_cons pe_str pa_nil)))) (fun _ _ _ _ _ _ => ps_ost (pv 0) (pv 1))
theorem xok_BadName {P : Program} {w : World} {K : PySem.W.Frag} {mg : Str → Option Value} {base : Heap} {fn : Addr} {fd : FuncData} {C M : Addr} (F : FunD K "__init__" "BadName.__init__" (defArgs (inClass (top 2) 0)) (defBody (inClass (top 2) 0)) (defScope (inClass (top 2) 0)) [] [] fn fd) (gm : mg "MixError" = some (.ref M)) (CM : MixC K M) (T : OexC K C) (nf : PySem.W.findIn K (.ref C) "name" = some none) :
    FnOk P w K mg base (L2N.CX P w) 1 fn fd ["self", "name"] (spXI K C "name") :=
  xinit_ok (z := "this string is not a name") F ⟨rfl, rfl, rfl, by decide +kernel, rfl, by decide +kernel, by decide +kernel⟩ T nf (fun _ _ _ _ _ _ => ps_expr (pe_mixinit gm CM (pa_cons (pv 0) (pa_cons pe_str pa_nil)))) (fun _ _ _ _ _ _ => ps_ost (pv 0) (pv 1))
theorem xok_BadNumber {P : Program} {w : World} {K : PySem.W.Frag} {mg : Str → Option Value} {base : Heap} {fn : Addr} {fd : FuncData} {C M : Addr} (F : FunD K "__init__" "BadNumber.__init__" (defArgs (inClass (top 8) 0)) (defBody (inClass (top 8) 0)) (defScope (inClass (top 8) 0)) [] [] fn fd) (gm : mg "MixError" = some (.ref M)) (CM : MixC K M) (T : OexC K C) (nf : PySem.W.findIn K (.ref C) "value" = some none) :
    FnOk P w K mg base (L2N.CX P w) 1 fn fd ["self", "value"] (spXI K C "value") :=
  xinit_ok (z := "this is not a number that is allowed here") F ⟨rfl, rfl, rfl, by decide +kernel, rfl, by decide +kernel, by decide +kernel⟩ T nf (fun _ _ _ _ _ _ => ps_expr (pe_mixinit gm CM (pa_cons (pv 0) (pa_cons pe_str pa_nil)))) (fun _ _ _ _ _ _ => ps_ost (pv 0) (pv 1))
theorem xok_BadRing {P : Program} {w : World} {K : PySem.W.Frag} {mg : Str → Option Value} {base : Heap} {fn : Addr} {fd : FuncData} {C M : Addr} (F : FunD K "__init__" "BadRing.__init__" (defArgs (inClass (top 10) 0)) (defBody (inClass (top 10) 0)) (defScope (inClass (top 10) 0)) [] [] fn fd) (gm : mg "MixError" = some (.ref M)) (CM : MixC K M) (T : OexC K C) (nf : PySem.W.findIn K (.ref C) "value" = some none) :
    FnOk P w K mg base (L2N.CX P w) 1 fn fd ["self", "value"] (spXI K C "value") :=
  xinit_ok (z := "this is not a ring here") F ⟨rfl, rfl, rfl, by decide +kernel, rfl, by decide +kernel, by decide +kernel⟩ T nf (fun _ _ _ _ _ _ => ps_expr (pe_mixinit gm CM (pa_cons (pv 0) (pa_cons pe_str pa_nil)))) (fun _ _ _ _ _ _ => ps_ost (pv 0) (pv 1))
theorem xok_BadText {P : Program} {w : World} {K : PySem.W.Frag} {mg : Str → Option Value} {base : Heap} {fn : Addr} {fd : FuncData} {C M : Addr} (F : FunD K "__init__" "BadText.__init__" (defArgs (inClass (top 6) 0)) (defBody (inClass (top 6) 0)) (defScope (inClass (top 6) 0)) [] [] fn fd) (gm : mg "MixError" = some (.ref M)) (CM : MixC K M) (T : OexC K C) (nf : PySem.W.findIn K (.ref C) "text" = some none) :
    FnOk P w K mg base (L2N.CX P w) 1 fn fd ["self", "text"] (spXI K C "text") :=
  xinit_ok (z := "this text cannot be read") F ⟨rfl, rfl, rfl, by decide +kernel, rfl, by decide +kernel, by decide +kernel⟩ T nf (fun _ _ _ _ _ _ => ps_expr (pe_mixinit gm CM (pa_cons (pv 0) (pa_cons pe_str pa_nil)))) (fun _ _ _ _ _ _ => ps_ost (pv 0) (pv 1))
theorem xok_Barred {P : Program} {w : World} {K : PySem.W.Frag} {mg : Str → Option Value} {base : Heap} {fn : Addr} {fd : FuncData} {C M : Addr} (F : FunD K "__init__" "Barred.__init__" (defArgs (inClass (top 11) 0)) (defBody (inClass (top 11) 0)) (defScope (inClass (top 11) 0)) [] [] fn fd) (gm : mg "MixError" = some (.ref M)) (CM : MixC K M) (T : OexC K C) (nf : PySem.W.findIn K (.ref C) "value" = some none) :
    FnOk P w K mg base (L2N.CX P w) 1 fn fd ["self", "value"] (spXI K C "value") :=
  xinit_ok (z := "the groups cannot be parted in two families") F ⟨rfl, rfl, rfl, by decide +kernel, rfl, by decide +kernel, by decide +kernel⟩ T nf (fun _ _ _ _ _ _ => ps_expr (pe_mixinit gm CM (pa_cons (pv 0) (pa_cons pe_str pa_nil)))) (fun _ _ _ _ _ _ => ps_ost (pv 0) (pv 1))
theorem xok_DuplicateName {P : Program} {w : World} {K : PySem.W.Frag} {mg : Str → Option Value} {base : Heap} {fn : Addr} {fd : FuncData} {C M : Addr} (F : FunD K "__init__" "DuplicateName.__init__" (defArgs (inClass (top 3) 0)) (defBody (inClass (top 3) 0)) (defScope (inClass (top 3) 0)) [] [] fn fd) (gm : mg "MixError" = some (.ref M)) (CM : MixC K M) (T : OexC K C) (nf : PySem.W.findIn K (.ref C) "name" = some none) :
    FnOk P w K mg base (L2N.CX P w) 1 fn fd ["self", "name"] (spXI K C "name") :=
  xinit_ok (z := "this name stands twice") F ⟨rfl, rfl, rfl, by decide +kernel, rfl, by decide +kernel, by decide +kernel⟩ T nf (fun _ _ _ _ _ _ => ps_expr (pe_mixinit gm CM (pa_cons (pv 0) (pa_cons pe_str pa_nil)))) (fun _ _ _ _ _ _ => ps_ost (pv 0) (pv 1))
theorem xok_NoWhole {P : Program} {w : World} {K : PySem.W.Frag} {mg : Str → Option Value} {base : Heap} {fn : Addr} {fd : FuncData} {C M : Addr} (F : FunD K "__init__" "NoWhole.__init__" (defArgs (inClass (top 13) 0)) (defBody (inClass (top 13) 0)) (defScope (inClass (top 13) 0)) [] [] fn fd) (gm : mg "MixError" = some (.ref M)) (CM : MixC K M) (T : OexC K C) (nf : PySem.W.findIn K (.ref C) "value" = some none) :
    FnOk P w K mg base (L2N.CX P w) 1 fn fd ["self", "value"] (spXI K C "value") :=
  xinit_ok (z := "no whole table keeps these limits") F ⟨rfl, rfl, rfl, by decide +kernel, rfl, by decide +kernel, by decide +kernel⟩ T nf (fun _ _ _ _ _ _ => ps_expr (pe_mixinit gm CM (pa_cons (pv 0) (pa_cons pe_str pa_nil)))) (fun _ _ _ _ _ _ => ps_ost (pv 0) (pv 1))
theorem xok_NotBarred {P : Program} {w : World} {K : PySem.W.Frag} {mg : Str → Option Value} {base : Heap} {fn : Addr} {fd : FuncData} {C M : Addr} (F : FunD K "__init__" "NotBarred.__init__" (defArgs (inClass (top 12) 0)) (defBody (inClass (top 12) 0)) (defScope (inClass (top 12) 0)) [] [] fn fd) (gm : mg "MixError" = some (.ref M)) (CM : MixC K M) (T : OexC K C) :
    FnOk P w K mg base (L2N.CX P w) 1 fn fd ["self"] (spX0 C) :=
  x0init_ok (z := "the groups can be parted in two families") F ⟨rfl, rfl, rfl, by decide +kernel, rfl, by decide +kernel, by decide +kernel⟩ T (fun _ _ _ _ _ _ => ps_expr (pe_mixinit gm CM (pa_cons (pv 0) (pa_cons pe_str pa_nil))))
theorem xok_NothingToUndo {P : Program} {w : World} {K : PySem.W.Frag} {mg : Str → Option Value} {base : Heap} {fn : Addr} {fd : FuncData} {C M : Addr} (F : FunD K "__init__" "NothingToUndo.__init__" (defArgs (inClass (top 17) 0)) (defBody (inClass (top 17) 0)) (defScope (inClass (top 17) 0)) [] [] fn fd) (gm : mg "MixError" = some (.ref M)) (CM : MixC K M) (T : OexC K C) :
    FnOk P w K mg base (L2N.CX P w) 1 fn fd ["self"] (spX0 C) :=
  x0init_ok (z := "there is no change to take back") F ⟨rfl, rfl, rfl, by decide +kernel, rfl, by decide +kernel, by decide +kernel⟩ T (fun _ _ _ _ _ _ => ps_expr (pe_mixinit gm CM (pa_cons (pv 0) (pa_cons pe_str pa_nil))))
theorem xok_Shut {P : Program} {w : World} {K : PySem.W.Frag} {mg : Str → Option Value} {base : Heap} {fn : Addr} {fd : FuncData} {C M : Addr} (F : FunD K "__init__" "Shut.__init__" (defArgs (inClass (top 16) 0)) (defBody (inClass (top 16) 0)) (defScope (inClass (top 16) 0)) [] [] fn fd) (gm : mg "MixError" = some (.ref M)) (CM : MixC K M) (T : OexC K C) (nf : PySem.W.findIn K (.ref C) "value" = some none) :
    FnOk P w K mg base (L2N.CX P w) 1 fn fd ["self", "value"] (spXI K C "value") :=
  xinit_ok (z := "this table cannot be drawn next") F ⟨rfl, rfl, rfl, by decide +kernel, rfl, by decide +kernel, by decide +kernel⟩ T nf (fun _ _ _ _ _ _ => ps_expr (pe_mixinit gm CM (pa_cons (pv 0) (pa_cons pe_str pa_nil)))) (fun _ _ _ _ _ _ => ps_ost (pv 0) (pv 1))
theorem xok_UnknownName {P : Program} {w : World} {K : PySem.W.Frag} {mg : Str → Option Value} {base : Heap} {fn : Addr} {fd : FuncData} {C M : Addr} (F : FunD K "__init__" "UnknownName.__init__" (defArgs (inClass (top 4) 0)) (defBody (inClass (top 4) 0)) (defScope (inClass (top 4) 0)) [] [] fn fd) (gm : mg "MixError" = some (.ref M)) (CM : MixC K M) (T : OexC K C) (nf : PySem.W.findIn K (.ref C) "name" = some none) :
    FnOk P w K mg base (L2N.CX P w) 1 fn fd ["self", "name"] (spXI K C "name") :=
  xinit_ok (z := "there is nothing with this name here") F ⟨rfl, rfl, rfl, by decide +kernel, rfl, by decide +kernel, by decide +kernel⟩ T nf (fun _ _ _ _ _ _ => ps_expr (pe_mixinit gm CM (pa_cons (pv 0) (pa_cons pe_str pa_nil)))) (fun _ _ _ _ _ _ => ps_ost (pv 0) (pv 1))
theorem xok_UnlikeLayouts {P : Program} {w : World} {K : PySem.W.Frag} {mg : Str → Option Value} {base : Heap} {fn : Addr} {fd : FuncData} {C M : Addr} (F : FunD K "__init__" "UnlikeLayouts.__init__" (defArgs (inClass (top 14) 0)) (defBody (inClass (top 14) 0)) (defScope (inClass (top 14) 0)) [] [] fn fd) (gm : mg "MixError" = some (.ref M)) (CM : MixC K M) (T : OexC K C) :
    FnOk P w K mg base (L2N.CX P w) 1 fn fd ["self"] (spX0 C) :=
  x0init_ok (z := "the layouts are not equal") F ⟨rfl, rfl, rfl, by decide +kernel, rfl, by decide +kernel, by decide +kernel⟩ T (fun _ _ _ _ _ _ => ps_expr (pe_mixinit gm CM (pa_cons (pv 0) (pa_cons pe_str pa_nil))))
theorem known {P : Program} {w : World} {K : PySem.W.Frag} {h : Heap} {mg : Str → Option Value} (X : K.In h) (G : h.Ns mainGlobals mg) (c : SaysM fa fn ex K) :
    ∃ fd, (∀ (s : Shared) (v : Value), BindsTo s fd ⟨[v], []⟩ [("_law_script", v)]) ∧ ∀ base : Heap, FnG P w K mg base (L2N.CX P w) 4 (He.ga K "law") fd ["_law_script"] (spOf K sp_law) := by
  obtain ⟨fd0, F0⟩ := c.def_ 0 (d := d0) rfl
  have F0 : FunD K "__init__" "AllDrawn.__init__" (defArgs (inClass (top 15) 0)) (defBody (inClass (top 15) 0)) (defScope (inClass (top 15) 0)) [] [] (He.ma K (He.ga K "AllDrawn") "__init__") fd0 := F0
  obtain ⟨fd1, F1⟩ := c.def_ 1 (d := d1) rfl
  have F1 : FunD K "__init__" "BadCell.__init__" (defArgs (inClass (top 7) 0)) (defBody (inClass (top 7) 0)) (defScope (inClass (top 7) 0)) [] [] (He.ma K (He.ga K "BadCell") "__init__") fd1 := F1
  obtain ⟨fd2, F2⟩ := c.def_ 2 (d := d2) rfl
  have F2 : FunD K "__init__" "BadCount.__init__" (defArgs (inClass (top 5) 0)) (defBody (inClass (top 5) 0)) (defScope (inClass (top 5) 0)) [] [] (He.ma K (He.ga K "BadCount") "__init__") fd2 := F2
  obtain ⟨fd3, F3⟩ := c.def_ 3 (d := d3) rfl
  have F3 : FunD K "__init__" "BadLimits.__init__" (defArgs (inClass (top 9) 0)) (defBody (inClass (top 9) 0)) (defScope (inClass (top 9) 0)) [] [] (He.ma K (He.ga K "BadLimits") "__init__") fd3 := F3
  obtain ⟨fd4, F4⟩ := c.def_ 4 (d := d4) rfl
  have F4 : FunD K "__init__" "BadName.__init__" (defArgs (inClass (top 2) 0)) (defBody (inClass (top 2) 0)) (defScope (inClass (top 2) 0)) [] [] (He.ma K (He.ga K "BadName") "__init__") fd4 := F4
  obtain ⟨fd5, F5⟩ := c.def_ 5 (d := d5) rfl
  have F5 : FunD K "__init__" "BadNumber.__init__" (defArgs (inClass (top 8) 0)) (defBody (inClass (top 8) 0)) (defScope (inClass (top 8) 0)) [] [] (He.ma K (He.ga K "BadNumber") "__init__") fd5 := F5
  obtain ⟨fd6, F6⟩ := c.def_ 6 (d := d6) rfl
  have F6 : FunD K "__init__" "BadRing.__init__" (defArgs (inClass (top 10) 0)) (defBody (inClass (top 10) 0)) (defScope (inClass (top 10) 0)) [] [] (He.ma K (He.ga K "BadRing") "__init__") fd6 := F6
  obtain ⟨fd7, F7⟩ := c.def_ 7 (d := d7) rfl
  have F7 : FunD K "__init__" "BadText.__init__" (defArgs (inClass (top 6) 0)) (defBody (inClass (top 6) 0)) (defScope (inClass (top 6) 0)) [] [] (He.ma K (He.ga K "BadText") "__init__") fd7 := F7
  obtain ⟨fd8, F8⟩ := c.def_ 8 (d := d8) rfl
  have F8 : FunD K "__init__" "Barred.__init__" (defArgs (inClass (top 11) 0)) (defBody (inClass (top 11) 0)) (defScope (inClass (top 11) 0)) [] [] (He.ma K (He.ga K "Barred") "__init__") fd8 := F8
  obtain ⟨fd9, F9⟩ := c.def_ 9 (d := d9) rfl
  have F9 : FunD K "__init__" "DuplicateName.__init__" (defArgs (inClass (top 3) 0)) (defBody (inClass (top 3) 0)) (defScope (inClass (top 3) 0)) [] [] (He.ma K (He.ga K "DuplicateName") "__init__") fd9 := F9
  obtain ⟨fd10, F10⟩ := c.def_ 10 (d := d10) rfl
  have F10 : FunD K "__init__" "NoWhole.__init__" (defArgs (inClass (top 13) 0)) (defBody (inClass (top 13) 0)) (defScope (inClass (top 13) 0)) [] [] (He.ma K (He.ga K "NoWhole") "__init__") fd10 := F10
  obtain ⟨fd11, F11⟩ := c.def_ 11 (d := d11) rfl
  have F11 : FunD K "__init__" "NotBarred.__init__" (defArgs (inClass (top 12) 0)) (defBody (inClass (top 12) 0)) (defScope (inClass (top 12) 0)) [] [] (He.ma K (He.ga K "NotBarred") "__init__") fd11 := F11
  obtain ⟨fd12, F12⟩ := c.def_ 12 (d := d12) rfl
  have F12 : FunD K "__init__" "NothingToUndo.__init__" (defArgs (inClass (top 17) 0)) (defBody (inClass (top 17) 0)) (defScope (inClass (top 17) 0)) [] [] (He.ma K (He.ga K "NothingToUndo") "__init__") fd12 := F12
  obtain ⟨fd13, F13⟩ := c.def_ 13 (d := d13) rfl
  have F13 : FunD K "__init__" "Shut.__init__" (defArgs (inClass (top 16) 0)) (defBody (inClass (top 16) 0)) (defScope (inClass (top 16) 0)) [] [] (He.ma K (He.ga K "Shut") "__init__") fd13 := F13
  obtain ⟨fd14, F14⟩ := c.def_ 14 (d := d14) rfl
  have F14 : FunD K "__init__" "UnknownName.__init__" (defArgs (inClass (top 4) 0)) (defBody (inClass (top 4) 0)) (defScope (inClass (top 4) 0)) [] [] (He.ma K (He.ga K "UnknownName") "__init__") fd14 := F14
  obtain ⟨fd15, F15⟩ := c.def_ 15 (d := d15) rfl
  have F15 : FunD K "__init__" "UnlikeLayouts.__init__" (defArgs (inClass (top 14) 0)) (defBody (inClass (top 14) 0)) (defScope (inClass (top 14) 0)) [] [] (He.ma K (He.ga K "UnlikeLayouts") "__init__") fd15 := F15
  obtain ⟨fd16, F16⟩ := c.def_ 16 (d := d16) rfl
  have F16 : FunD K "_law_draw" "_law_draw" (defArgs (top 20)) (defBody (top 20)) (defScope (top 20)) [] [] (He.ga K "_law_draw") fd16 := F16
  obtain ⟨fd17, F17⟩ := c.def_ 17 (d := d17) rfl
  have F17 : FunD K "_law_start" "_law_start" (defArgs (top 19)) (defBody (top 19)) (defScope (top 19)) [] [] (He.ga K "_law_start") fd17 := F17
  obtain ⟨fd18, F18⟩ := c.def_ 18 (d := d18) rfl
  have F18 : FunD K "_law_field" "_law_field" (defArgs (top 24)) (defBody (top 24)) (defScope (top 24)) [] [] (He.ga K "_law_field") fd18 := F18
  obtain ⟨fd19, F19⟩ := c.def_ 19 (d := d19) rfl
  have F19 : FunD K "_law_kinds" "_law_kinds" (defArgs (top 25)) (defBody (top 25)) (defScope (top 25)) [] [] (He.ga K "_law_kinds") fd19 := F19
  obtain ⟨fd20, F20⟩ := c.def_ 20 (d := d20) rfl
  have F20 : FunD K "_law_thing" "_law_thing" (defArgs (top 21)) (defBody (top 21)) (defScope (top 21)) [] [] (He.ga K "_law_thing") fd20 := F20
  obtain ⟨fd21, F21⟩ := c.def_ 21 (d := d21) rfl
  have F21 : FunD K "_law_stands" "_law_stands" (defArgs (top 26)) (defBody (top 26)) (defScope (top 26)) [] [] (He.ga K "_law_stands") fd21 := F21
  obtain ⟨fd22, F22⟩ := c.def_ 22 (d := d22) rfl
  have F22 : FunD K "_law_made" "_law_made" (defArgs (top 22)) (defBody (top 22)) (defScope (top 22)) [] [] (He.ga K "_law_made") fd22 := F22
  obtain ⟨fd23, F23⟩ := c.def_ 23 (d := d23) rfl
  have F23 : FunD K "_law_named" "_law_named" (defArgs (top 23)) (defBody (top 23)) (defScope (top 23)) [] [] (He.ga K "_law_named") fd23 := F23
  obtain ⟨fd24, F24⟩ := c.def_ 24 (d := d24) rfl
  have F24 : FunD K "law" "law" (defArgs (top 27)) (defBody (top 27)) (defScope (top 27)) [] [] (He.ga K "law") fd24 := F24
  refine ⟨fd24, fun s v => FunD.bindsA (ps := ["_law_script"]) F24 (fun _ _ _ _ _ _ us hl => match us, hl with | [_], _ => rfl) s [v] rfl, fun base => ?_⟩
  have hx := c.extra
  obtain ⟨hM, hx⟩ := He.ba hx
  obtain ⟨h_AllDrawn, hx⟩ := He.ba hx
  obtain ⟨h_BadCell, hx⟩ := He.ba hx
  obtain ⟨h_BadCount, hx⟩ := He.ba hx
  obtain ⟨h_BadLimits, hx⟩ := He.ba hx
  obtain ⟨h_BadName, hx⟩ := He.ba hx
  obtain ⟨h_BadNumber, hx⟩ := He.ba hx
  obtain ⟨h_BadRing, hx⟩ := He.ba hx
  obtain ⟨h_BadText, hx⟩ := He.ba hx
  obtain ⟨h_Barred, hx⟩ := He.ba hx
  obtain ⟨h_DuplicateName, hx⟩ := He.ba hx
  obtain ⟨h_NoWhole, hx⟩ := He.ba hx
  obtain ⟨h_NotBarred, hx⟩ := He.ba hx
  obtain ⟨h_NothingToUndo, hx⟩ := He.ba hx
  obtain ⟨h_Shut, hx⟩ := He.ba hx
  obtain ⟨h_UnknownName, hx⟩ := He.ba hx
  obtain ⟨h_UnlikeLayouts, hx⟩ := He.ba hx
  obtain ⟨hef_count, hx⟩ := He.ba hx
  obtain ⟨hef_name, hx⟩ := He.ba hx
  obtain ⟨hef_text, hx⟩ := He.ba hx
  obtain ⟨hef_value, hx⟩ := He.ba hx
  obtain ⟨hiv_AllDrawn, hx⟩ := He.ba hx
  obtain ⟨hiv_BadCell, hx⟩ := He.ba hx
  obtain ⟨hiv_BadCount, hx⟩ := He.ba hx
  obtain ⟨hiv_BadLimits, hx⟩ := He.ba hx
  obtain ⟨hiv_BadName, hx⟩ := He.ba hx
  obtain ⟨hiv_BadNumber, hx⟩ := He.ba hx
  obtain ⟨hiv_BadRing, hx⟩ := He.ba hx
  obtain ⟨hiv_BadText, hx⟩ := He.ba hx
  obtain ⟨hiv_Barred, hx⟩ := He.ba hx
  obtain ⟨hiv_DuplicateName, hx⟩ := He.ba hx
  obtain ⟨hiv_MixError, hx⟩ := He.ba hx
  obtain ⟨hiv_NoWhole, hx⟩ := He.ba hx
  obtain ⟨hiv_NotBarred, hx⟩ := He.ba hx
  obtain ⟨hiv_NothingToUndo, hx⟩ := He.ba hx
  obtain ⟨hiv_Shut, hx⟩ := He.ba hx
  obtain ⟨hiv_UnknownName, hx⟩ := He.ba hx
  obtain ⟨hiv_UnlikeLayouts, hx⟩ := He.ba hx
  obtain ⟨hiv_ValueError, hx⟩ := He.ba hx
  obtain ⟨hsys, hx⟩ := He.ba hx
  have fx : Fx K mg := { b_ValueError := (He.free_ok X G (c.fact 0 (f := .free "ValueError") rfl)), b_dict := (He.free_ok X G (c.fact 1 (f := .free "dict") rfl)), b_isinstance := (He.free_ok X G (c.fact 2 (f := .free "isinstance") rfl)), b_len := (He.free_ok X G (c.fact 3 (f := .free "len") rfl)), b_list := (He.free_ok X G (c.fact 4 (f := .free "list") rfl)), b_range := (He.free_ok X G (c.fact 5 (f := .free "range") rfl)), b_repr := (He.free_ok X G (c.fact 6 (f := .free "repr") rfl)), b_str := (He.free_ok X G (c.fact 7 (f := .free "str") rfl)), b_tuple := (He.free_ok X G (c.fact 8 (f := .free "tuple") rfl)), ef_count := efB_ok hef_count, ef_name := efB_ok hef_name, ef_text := efB_ok hef_text, ef_value := efB_ok hef_value, g_AllDrawn := (He.glo_ok X G (c.fact 9 (f := .glo "AllDrawn") rfl)), g_BadCell := (He.glo_ok X G (c.fact 10 (f := .glo "BadCell") rfl)), g_BadCount := (He.glo_ok X G (c.fact 11 (f := .glo "BadCount") rfl)), g_BadLimits := (He.glo_ok X G (c.fact 12 (f := .glo "BadLimits") rfl)), g_BadName := (He.glo_ok X G (c.fact 13 (f := .glo "BadName") rfl)), g_BadNumber := (He.glo_ok X G (c.fact 14 (f := .glo "BadNumber") rfl)), g_BadRing := (He.glo_ok X G (c.fact 15 (f := .glo "BadRing") rfl)), g_BadText := (He.glo_ok X G (c.fact 16 (f := .glo "BadText") rfl)), g_Barred := (He.glo_ok X G (c.fact 17 (f := .glo "Barred") rfl)), g_DuplicateName := (He.glo_ok X G (c.fact 18 (f := .glo "DuplicateName") rfl)), g_MixError := (He.glo_ok X G (c.fact 19 (f := .glo "MixError") rfl)), g_NoWhole := (He.glo_ok X G (c.fact 20 (f := .glo "NoWhole") rfl)), g_NotBarred := (He.glo_ok X G (c.fact 21 (f := .glo "NotBarred") rfl)), g_NothingToUndo := (He.glo_ok X G (c.fact 22 (f := .glo "NothingToUndo") rfl)), g_Shut := (He.glo_ok X G (c.fact 23 (f := .glo "Shut") rfl)), g_UnknownName := (He.glo_ok X G (c.fact 24 (f := .glo "UnknownName") rfl)), g_UnlikeLayouts := (He.glo_ok X G (c.fact 25 (f := .glo "UnlikeLayouts") rfl)), iv_AllDrawn := ivB_ok hiv_AllDrawn, iv_BadCell := ivB_ok hiv_BadCell, iv_BadCount := ivB_ok hiv_BadCount, iv_BadLimits := ivB_ok hiv_BadLimits, iv_BadName := ivB_ok hiv_BadName, iv_BadNumber := ivB_ok hiv_BadNumber, iv_BadRing := ivB_ok hiv_BadRing, iv_BadText := ivB_ok hiv_BadText, iv_Barred := ivB_ok hiv_Barred, iv_DuplicateName := ivB_ok hiv_DuplicateName, iv_MixError := ivB_ok hiv_MixError, iv_NoWhole := ivB_ok hiv_NoWhole, iv_NotBarred := ivB_ok hiv_NotBarred, iv_NothingToUndo := ivB_ok hiv_NothingToUndo, iv_Shut := ivB_ok hiv_Shut, iv_UnknownName := ivB_ok hiv_UnknownName, iv_UnlikeLayouts := ivB_ok hiv_UnlikeLayouts, iv_ValueError := ivB_ok hiv_ValueError, sys := hsys, triv := True.intro }
  have k_AllDrawn : KnowE0 P w K mg base "AllDrawn" := knowE0_of h_AllDrawn (fun T => xok_AllDrawn F0 (He.glo_ok X G (c.fact 19 (f := .glo "MixError") rfl)) (mixB_ok hM) T) (F0.bindsN fun _ _ _ _ _ _ us hl => match us, hl with | [_], _ => rfl) (He.glo_ok X G (c.fact 9 (f := .glo "AllDrawn") rfl))
  have k_BadCell : KnowE P w K mg base "BadCell" "value" := knowE_of h_BadCell (fun T nf => xok_BadCell F1 (He.glo_ok X G (c.fact 19 (f := .glo "MixError") rfl)) (mixB_ok hM) T nf) (F1.bindsN fun _ _ _ _ _ _ us hl => match us, hl with | [_, _], _ => rfl) (He.glo_ok X G (c.fact 10 (f := .glo "BadCell") rfl))
  have kk_BadCell : KnowEK P w K mg base "BadCell" "value" := knowEK_of h_BadCell (fun T nf => xok_BadCell F1 (He.glo_ok X G (c.fact 19 (f := .glo "MixError") rfl)) (mixB_ok hM) T nf) (kbindsN F1 1 ["value"] [0] fun _ _ _ _ _ _ us ws h1 h2 => match us, ws, h1, h2 with | [_], [_], _, _ => rfl) (He.glo_ok X G (c.fact 10 (f := .glo "BadCell") rfl))
  have k_BadCount : KnowE P w K mg base "BadCount" "count" := knowE_of h_BadCount (fun T nf => xok_BadCount F2 (He.glo_ok X G (c.fact 19 (f := .glo "MixError") rfl)) (mixB_ok hM) T nf) (F2.bindsN fun _ _ _ _ _ _ us hl => match us, hl with | [_, _], _ => rfl) (He.glo_ok X G (c.fact 11 (f := .glo "BadCount") rfl))
  have kk_BadCount : KnowEK P w K mg base "BadCount" "count" := knowEK_of h_BadCount (fun T nf => xok_BadCount F2 (He.glo_ok X G (c.fact 19 (f := .glo "MixError") rfl)) (mixB_ok hM) T nf) (kbindsN F2 1 ["count"] [0] fun _ _ _ _ _ _ us ws h1 h2 => match us, ws, h1, h2 with | [_], [_], _, _ => rfl) (He.glo_ok X G (c.fact 11 (f := .glo "BadCount") rfl))
  have k_BadLimits : KnowE P w K mg base "BadLimits" "value" := knowE_of h_BadLimits (fun T nf => xok_BadLimits F3 (He.glo_ok X G (c.fact 19 (f := .glo "MixError") rfl)) (mixB_ok hM) T nf) (F3.bindsN fun _ _ _ _ _ _ us hl => match us, hl with | [_, _], _ => rfl) (He.glo_ok X G (c.fact 12 (f := .glo "BadLimits") rfl))
  have kk_BadLimits : KnowEK P w K mg base "BadLimits" "value" := knowEK_of h_BadLimits (fun T nf => xok_BadLimits F3 (He.glo_ok X G (c.fact 19 (f := .glo "MixError") rfl)) (mixB_ok hM) T nf) (kbindsN F3 1 ["value"] [0] fun _ _ _ _ _ _ us ws h1 h2 => match us, ws, h1, h2 with | [_], [_], _, _ => rfl) (He.glo_ok X G (c.fact 12 (f := .glo "BadLimits") rfl))
  have k_BadName : KnowE P w K mg base "BadName" "name" := knowE_of h_BadName (fun T nf => xok_BadName F4 (He.glo_ok X G (c.fact 19 (f := .glo "MixError") rfl)) (mixB_ok hM) T nf) (F4.bindsN fun _ _ _ _ _ _ us hl => match us, hl with | [_, _], _ => rfl) (He.glo_ok X G (c.fact 13 (f := .glo "BadName") rfl))
  have kk_BadName : KnowEK P w K mg base "BadName" "name" := knowEK_of h_BadName (fun T nf => xok_BadName F4 (He.glo_ok X G (c.fact 19 (f := .glo "MixError") rfl)) (mixB_ok hM) T nf) (kbindsN F4 1 ["name"] [0] fun _ _ _ _ _ _ us ws h1 h2 => match us, ws, h1, h2 with | [_], [_], _, _ => rfl) (He.glo_ok X G (c.fact 13 (f := .glo "BadName") rfl))
  have k_BadNumber : KnowE P w K mg base "BadNumber" "value" := knowE_of h_BadNumber (fun T nf => xok_BadNumber F5 (He.glo_ok X G (c.fact 19 (f := .glo "MixError") rfl)) (mixB_ok hM) T nf) (F5.bindsN fun _ _ _ _ _ _ us hl => match us, hl with | [_, _], _ => rfl) (He.glo_ok X G (c.fact 14 (f := .glo "BadNumber") rfl))
  have kk_BadNumber : KnowEK P w K mg base "BadNumber" "value" := knowEK_of h_BadNumber (fun T nf => xok_BadNumber F5 (He.glo_ok X G (c.fact 19 (f := .glo "MixError") rfl)) (mixB_ok hM) T nf) (kbindsN F5 1 ["value"] [0] fun _ _ _ _ _ _ us ws h1 h2 => match us, ws, h1, h2 with | [_], [_], _, _ => rfl) (He.glo_ok X G (c.fact 14 (f := .glo "BadNumber") rfl))
  have k_BadRing : KnowE P w K mg base "BadRing" "value" := knowE_of h_BadRing (fun T nf => xok_BadRing F6 (He.glo_ok X G (c.fact 19 (f := .glo "MixError") rfl)) (mixB_ok hM) T nf) (F6.bindsN fun _ _ _ _ _ _ us hl => match us, hl with | [_, _], _ => rfl) (He.glo_ok X G (c.fact 15 (f := .glo "BadRing") rfl))
  have kk_BadRing : KnowEK P w K mg base "BadRing" "value" := knowEK_of h_BadRing (fun T nf => xok_BadRing F6 (He.glo_ok X G (c.fact 19 (f := .glo "MixError") rfl)) (mixB_ok hM) T nf) (kbindsN F6 1 ["value"] [0] fun _ _ _ _ _ _ us ws h1 h2 => match us, ws, h1, h2 with | [_], [_], _, _ => rfl) (He.glo_ok X G (c.fact 15 (f := .glo "BadRing") rfl))
  have k_BadText : KnowE P w K mg base "BadText" "text" := knowE_of h_BadText (fun T nf => xok_BadText F7 (He.glo_ok X G (c.fact 19 (f := .glo "MixError") rfl)) (mixB_ok hM) T nf) (F7.bindsN fun _ _ _ _ _ _ us hl => match us, hl with | [_, _], _ => rfl) (He.glo_ok X G (c.fact 16 (f := .glo "BadText") rfl))
  have kk_BadText : KnowEK P w K mg base "BadText" "text" := knowEK_of h_BadText (fun T nf => xok_BadText F7 (He.glo_ok X G (c.fact 19 (f := .glo "MixError") rfl)) (mixB_ok hM) T nf) (kbindsN F7 1 ["text"] [0] fun _ _ _ _ _ _ us ws h1 h2 => match us, ws, h1, h2 with | [_], [_], _, _ => rfl) (He.glo_ok X G (c.fact 16 (f := .glo "BadText") rfl))
  have k_Barred : KnowE P w K mg base "Barred" "value" := knowE_of h_Barred (fun T nf => xok_Barred F8 (He.glo_ok X G (c.fact 19 (f := .glo "MixError") rfl)) (mixB_ok hM) T nf) (F8.bindsN fun _ _ _ _ _ _ us hl => match us, hl with | [_, _], _ => rfl) (He.glo_ok X G (c.fact 17 (f := .glo "Barred") rfl))
  have kk_Barred : KnowEK P w K mg base "Barred" "value" := knowEK_of h_Barred (fun T nf => xok_Barred F8 (He.glo_ok X G (c.fact 19 (f := .glo "MixError") rfl)) (mixB_ok hM) T nf) (kbindsN F8 1 ["value"] [0] fun _ _ _ _ _ _ us ws h1 h2 => match us, ws, h1, h2 with | [_], [_], _, _ => rfl) (He.glo_ok X G (c.fact 17 (f := .glo "Barred") rfl))
  have k_DuplicateName : KnowE P w K mg base "DuplicateName" "name" := knowE_of h_DuplicateName (fun T nf => xok_DuplicateName F9 (He.glo_ok X G (c.fact 19 (f := .glo "MixError") rfl)) (mixB_ok hM) T nf) (F9.bindsN fun _ _ _ _ _ _ us hl => match us, hl with | [_, _], _ => rfl) (He.glo_ok X G (c.fact 18 (f := .glo "DuplicateName") rfl))
  have kk_DuplicateName : KnowEK P w K mg base "DuplicateName" "name" := knowEK_of h_DuplicateName (fun T nf => xok_DuplicateName F9 (He.glo_ok X G (c.fact 19 (f := .glo "MixError") rfl)) (mixB_ok hM) T nf) (kbindsN F9 1 ["name"] [0] fun _ _ _ _ _ _ us ws h1 h2 => match us, ws, h1, h2 with | [_], [_], _, _ => rfl) (He.glo_ok X G (c.fact 18 (f := .glo "DuplicateName") rfl))
  have k_NoWhole : KnowE P w K mg base "NoWhole" "value" := knowE_of h_NoWhole (fun T nf => xok_NoWhole F10 (He.glo_ok X G (c.fact 19 (f := .glo "MixError") rfl)) (mixB_ok hM) T nf) (F10.bindsN fun _ _ _ _ _ _ us hl => match us, hl with | [_, _], _ => rfl) (He.glo_ok X G (c.fact 20 (f := .glo "NoWhole") rfl))
  have kk_NoWhole : KnowEK P w K mg base "NoWhole" "value" := knowEK_of h_NoWhole (fun T nf => xok_NoWhole F10 (He.glo_ok X G (c.fact 19 (f := .glo "MixError") rfl)) (mixB_ok hM) T nf) (kbindsN F10 1 ["value"] [0] fun _ _ _ _ _ _ us ws h1 h2 => match us, ws, h1, h2 with | [_], [_], _, _ => rfl) (He.glo_ok X G (c.fact 20 (f := .glo "NoWhole") rfl))
  have k_NotBarred : KnowE0 P w K mg base "NotBarred" := knowE0_of h_NotBarred (fun T => xok_NotBarred F11 (He.glo_ok X G (c.fact 19 (f := .glo "MixError") rfl)) (mixB_ok hM) T) (F11.bindsN fun _ _ _ _ _ _ us hl => match us, hl with | [_], _ => rfl) (He.glo_ok X G (c.fact 21 (f := .glo "NotBarred") rfl))
  have k_NothingToUndo : KnowE0 P w K mg base "NothingToUndo" := knowE0_of h_NothingToUndo (fun T => xok_NothingToUndo F12 (He.glo_ok X G (c.fact 19 (f := .glo "MixError") rfl)) (mixB_ok hM) T) (F12.bindsN fun _ _ _ _ _ _ us hl => match us, hl with | [_], _ => rfl) (He.glo_ok X G (c.fact 22 (f := .glo "NothingToUndo") rfl))
  have k_Shut : KnowE P w K mg base "Shut" "value" := knowE_of h_Shut (fun T nf => xok_Shut F13 (He.glo_ok X G (c.fact 19 (f := .glo "MixError") rfl)) (mixB_ok hM) T nf) (F13.bindsN fun _ _ _ _ _ _ us hl => match us, hl with | [_, _], _ => rfl) (He.glo_ok X G (c.fact 23 (f := .glo "Shut") rfl))
  have kk_Shut : KnowEK P w K mg base "Shut" "value" := knowEK_of h_Shut (fun T nf => xok_Shut F13 (He.glo_ok X G (c.fact 19 (f := .glo "MixError") rfl)) (mixB_ok hM) T nf) (kbindsN F13 1 ["value"] [0] fun _ _ _ _ _ _ us ws h1 h2 => match us, ws, h1, h2 with | [_], [_], _, _ => rfl) (He.glo_ok X G (c.fact 23 (f := .glo "Shut") rfl))
  have k_UnknownName : KnowE P w K mg base "UnknownName" "name" := knowE_of h_UnknownName (fun T nf => xok_UnknownName F14 (He.glo_ok X G (c.fact 19 (f := .glo "MixError") rfl)) (mixB_ok hM) T nf) (F14.bindsN fun _ _ _ _ _ _ us hl => match us, hl with | [_, _], _ => rfl) (He.glo_ok X G (c.fact 24 (f := .glo "UnknownName") rfl))
  have kk_UnknownName : KnowEK P w K mg base "UnknownName" "name" := knowEK_of h_UnknownName (fun T nf => xok_UnknownName F14 (He.glo_ok X G (c.fact 19 (f := .glo "MixError") rfl)) (mixB_ok hM) T nf) (kbindsN F14 1 ["name"] [0] fun _ _ _ _ _ _ us ws h1 h2 => match us, ws, h1, h2 with | [_], [_], _, _ => rfl) (He.glo_ok X G (c.fact 24 (f := .glo "UnknownName") rfl))
  have k_UnlikeLayouts : KnowE0 P w K mg base "UnlikeLayouts" := knowE0_of h_UnlikeLayouts (fun T => xok_UnlikeLayouts F15 (He.glo_ok X G (c.fact 19 (f := .glo "MixError") rfl)) (mixB_ok hM) T) (F15.bindsN fun _ _ _ _ _ _ us hl => match us, hl with | [_], _ => rfl) (He.glo_ok X G (c.fact 25 (f := .glo "UnlikeLayouts") rfl))
  have k_l_draw : Know P w K mg base 1 "_law_draw" ["_law_state", "_law_size"] sp_l_draw := know_of ((ok_draw F16 (He.free_ok X G (c.fact 26 (f := .free "int") rfl)) (He.free_ok X G (c.fact 3 (f := .free "len") rfl))).imp fun _ _ _ _ ⟨B, S, F, ρ, ds, Qn, Qx, R, rr, q, r⟩ => draw_w ⟨B, S, F, ρ, ds, Qn, Qx, R, rr, draw_imp q, r⟩) (He.glo_ok X G (c.fact 27 (f := .glo "_law_draw") rfl)) F16.kp (F16.bindsN fun _ _ _ _ _ _ us hl => match us, hl with | [_, _], _ => rfl)
  have k_l_start : Know P w K mg base 1 "_law_start" ["_law_script"] sp_l_start := know_of ((ok_start F17 (He.free_ok X G (c.fact 28 (f := .free "abs") rfl)) (He.free_ok X G (c.fact 4 (f := .free "list") rfl))).imp fun _ _ _ _ h => start_w h) (He.glo_ok X G (c.fact 29 (f := .glo "_law_start") rfl)) F17.kp (F17.bindsN fun _ _ _ _ _ _ us hl => match us, hl with | [_], _ => rfl)
  have k_l_field : Know P w K mg base 1 "_law_field" ["_law_way", "_law_e"] sp_l_field := know_of (fn_ok F18 sc_l_field len_l_field w_l_field (fun cdv A outer s H E B hr => walk_l_field fx  cdv A outer s H E B hr) law_l_field) (He.glo_ok X G (c.fact 30 (f := .glo "_law_field") rfl)) F18.kp (F18.bindsN fun _ _ _ _ _ _ us hl => match us, hl with | [_, _], _ => rfl)
  have k_l_kinds : Know P w K mg base 1 "_law_kinds" ["_law_e"] sp_l_kinds := know_of (fn_ok F19 sc_l_kinds len_l_kinds w_l_kinds (fun cdv A outer s H E B hr => walk_l_kinds fx  cdv A outer s H E B hr) law_l_kinds) (He.glo_ok X G (c.fact 31 (f := .glo "_law_kinds") rfl)) F19.kp (F19.bindsN fun _ _ _ _ _ _ us hl => match us, hl with | [_], _ => rfl)
  have k_l_thing : Know P w K mg base 2 "_law_thing" ["_law_state"] sp_l_thing := know_of (fn_ok F20 sc_l_thing len_l_thing w_l_thing (fun cdv A outer s H E B hr => walk_l_thing fx k_l_draw cdv A outer s H E B hr) law_l_thing) (He.glo_ok X G (c.fact 32 (f := .glo "_law_thing") rfl)) F20.kp (F20.bindsN fun _ _ _ _ _ _ us hl => match us, hl with | [_], _ => rfl)
  have k_l_stands : Know P w K mg base 2 "_law_stands" ["_law_e", "_law_way"] sp_l_stands := know_of (fn_ok F21 sc_l_stands len_l_stands w_l_stands (fun cdv A outer s H E B hr => walk_l_stands fx k_l_kinds cdv A outer s H E B hr) law_l_stands) (He.glo_ok X G (c.fact 33 (f := .glo "_law_stands") rfl)) F21.kp (F21.bindsN fun _ _ _ _ _ _ us hl => match us, hl with | [_, _], _ => rfl)
  have k_l_made : Know P w K mg base 3 "_law_made" ["_law_way", "_law_thing_here"] sp_l_made := know_of (fn_ok F22 sc_l_made len_l_made w_l_made (fun cdv A outer s H E B hr => walk_l_made fx k_BadCell k_BadCount k_BadLimits k_BadName k_BadNumber k_BadRing k_BadText k_Barred k_DuplicateName k_NoWhole k_Shut k_UnknownName cdv A outer s H E B hr) law_l_made) (He.glo_ok X G (c.fact 34 (f := .glo "_law_made") rfl)) F22.kp (F22.bindsN fun _ _ _ _ _ _ us hl => match us, hl with | [_, _], _ => rfl)
  have k_l_named : Know P w K mg base 3 "_law_named" ["_law_way", "_law_thing_here"] sp_l_named := know_of (fn_ok F23 sc_l_named len_l_named w_l_named (fun cdv A outer s H E B hr => walk_l_named fx kk_BadCell kk_BadCount kk_BadLimits kk_BadName kk_BadNumber kk_BadRing kk_BadText kk_Barred kk_DuplicateName kk_NoWhole kk_Shut kk_UnknownName cdv A outer s H E B hr) law_l_named) (He.glo_ok X G (c.fact 35 (f := .glo "_law_named") rfl)) F23.kp (F23.bindsN fun _ _ _ _ _ _ us hl => match us, hl with | [_, _], _ => rfl)
  exact (fnG_w F24 sc_law len_law w_law (fun cdv A outer s H E B hg hr => walk_law fx k_l_start k_l_draw k_l_thing k_l_named k_l_made k_l_field k_l_stands k_AllDrawn k_NotBarred k_NothingToUndo k_UnlikeLayouts cdv A outer s H E B hg hr) law_law)
theorem law_glo {K : PySem.W.Frag} {h : Heap} {mg : Str → Option Value} (X : K.In h) (G : h.Ns mainGlobals mg) (c : SaysM fa fn ex K) : mg "law" = some (.ref (He.ga K "law")) := (He.glo_ok X G (c.fact 36 (f := .glo "law") rfl))
end K02
set_option maxHeartbeats 0
open PySem PySem.W PySem.Calls PyProof.Rows
theorem PySem.Challenge.cw_wholemixes_k02_errors_holds : PySem.Challenge.rw_wholemixes_k02_errors.Holds := by
  w_on; o_law
  refine HandSHeadRun.head_any (r := OpenLaw.row PySem.Challenge.rw_wholemixes_k02_errors) (q := view (OpenLaw.row PySem.Challenge.rw_wholemixes_k02_errors).prog [27]) (H := K02.hk) (ob := K02.ob) (M := 20000) (loose := K02.loose) (d := HandSHeadRun.topDef (OpenLaw.row PySem.Challenge.rw_wholemixes_k02_errors).prog 27) (kwd := []) K02.ob_eq
    (by kernel_rfl) (fun s => by kernel_rfl) K02.run (by kernel_rfl) (by kernel_rfl) (by kernel_rfl) (by rfl) (by first | assumption | decide +kernel) (by decide +kernel) ⟨rfl, rfl, rfl, rfl, rfl, by decide +kernel⟩ ?hw ?hc
  case hw => w_witness2
  case hc =>
    refine WM.walk_ofG (l := PySem.Challenge.rw_wholemixes_k02_errors) (n := 63) (k := 4) (x := "_law_script") (CX := fun w => L2N.CX (PySem.Challenge.rw_wholemixes_k02_errors).prog w) rfl (by decide) (by kernel_rfl) ⟨rfl, by decide, by decide⟩ ?F (fun w H s e s' h => WM.cx_no _ w H s e s' h)
    intro w mg fa h Y G hmg0
    obtain ⟨K, KX, c⟩ := Y
    have hmg : mg ("law" : PySem.Str) = some (.ref fa) := by
      have e : (HandSHeadRun.topDef (OpenLaw.row PySem.Challenge.rw_wholemixes_k02_errors).prog 27).name = ("law" : PySem.Str) := by kernel_rfl
      rw [← e]
      exact hmg0
    have hfa : fa = He.ga K "law" := by
      have e := hmg.symm.trans (K02.law_glo KX G c)
      cases e; rfl
    subst hfa
    obtain ⟨fd, hb, hF⟩ := K02.known (P := (PySem.Challenge.rw_wholemixes_k02_errors).prog) (w := w) KX G c
    exact ⟨K, fd, WM.spOf K WM.sp_law, KX, hb, fun H a ns hl _ hS => WM.law_w hS (fun Q' X' hq => ⟨ns, rfl, rfl, hl, hq⟩) (fun _ => rfl), hF⟩
