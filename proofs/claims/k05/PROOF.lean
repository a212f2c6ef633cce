import PyProof.Rows.All
import Wide.All
import OpenK.AllK
import Wide.FinOn
import HandS.ForMost
import HandS.Zip
import HandS.Words
import HandS.TupAny
import HandS.Conv
import HandS.ReCall
import HandS.Style
import HandS.Exc
import HandS.ExcOwn
import HandS.ExcInit
import HandS.TryOnly
import HandS.Star
import HandS.Deep
import HandS.IsInst
import HandS.Codes
import HandS.TupMul
import HandS.NoneIn
import HandS.MakeKw
import HandS.MakeKwOnly
import HandS.Defaults
import HandS.More
import HandS.Lambda
import HandS.Flow
import HandS.Records
import KE.DataMinMax
import KE.DataEq
import KE.KIsAll
import HandS.WordsDict
import HandS.Text
import HandS.SetFor
import PyProof.Rows.SortShellAny
import HandS.Comp
import HandS.Iter
import KE.KExcIs
import HandS.ExcIs
import KE.KDflt
import HandS.Dict
import KE.GoesRaise
import PyProof.NeKinds
import PyProof.InstNe
import KE.KFmtOwn
import HandS.Walk
import HandS.ClsMeth
import HandS.EndTab
import KE.KNestM
import HandS.HeadEnd
import HandS.Head2
import HandS.HeadHook2
import HandS.HeadNt
import HandS.HeadHook3
import PySem.Challenge.RW_kindtells_k05_whole_leads_of_manners_by
import PyProof.ReprBulk
import PyProof.Rows.ReprOcc
set_option autoImplicit false
set_option Elab.async false
set_option linter.all false
section
set_option maxRecDepth 100000
set_option maxHeartbeats 4000000
/-! KP1: plain data, a small Python syntax without places, and what it computes. -/
namespace KP
open PySem L2

/-- data: what a value is, all the way in; cell n: the n-th thing of the store of things that still change -/
inductive D where
  | non | bl (b : Bool) | int (i : Int) | str (x : Str)
  | lst (xs : List D) | tup (xs : List D)
  | dct (ks : List Key) (vs : List D)
  | obj (c : Nat) (ns : List Nat) (vs : List D)
  | exn (c : Nat) (ns : List Nat) (vs : List D)
  | fn (f : Nat)
  | scr (ns : List Int)
  | cell (n : Nat)
mutual
def D.same : D → D → Bool
  | .non, .non => true
  | .bl a, .bl b => a == b
  | .int a, .int b => decide (a = b)
  | .str a, .str b => decide (a = b)
  | .lst a, .lst b => D.sames a b
  | .tup a, .tup b => D.sames a b
  | .dct k a, .dct l b => decide (k = l) && D.sames a b
  | .obj c n a, .obj d m b => decide (c = d) && decide (n = m) && D.sames a b
  | .exn c n a, .exn d m b => decide (c = d) && decide (n = m) && D.sames a b
  | .fn a, .fn b => decide (a = b)
  | .scr a, .scr b => decide (a = b)
  | .cell a, .cell b => decide (a = b)
  | _, _ => false
def D.sames : List D → List D → Bool
  | [], [] => true
  | a :: r, b :: s => D.same a b && D.sames r s
  | _, _ => false
end
mutual
theorem D.same_refl : ∀ a : D, D.same a a = true
  | .non => rfl
  | .bl a => by simp [D.same]
  | .int a => by simp [D.same]
  | .str a => by simp [D.same]
  | .lst a => by simp [D.same, D.sames_refl a]
  | .tup a => by simp [D.same, D.sames_refl a]
  | .dct k a => by simp [D.same, D.sames_refl a]
  | .obj c n a => by simp [D.same, D.sames_refl a]
  | .exn c n a => by simp [D.same, D.sames_refl a]
  | .fn a => by simp [D.same]
  | .scr a => by simp [D.same]
  | .cell a => by simp [D.same]
theorem D.sames_refl : ∀ a : List D, D.sames a a = true
  | [] => rfl
  | a :: r => by simp [D.sames, D.same_refl a, D.sames_refl r]
end
mutual
theorem D.same_eq : ∀ a b : D, D.same a b = true → a = b
  | .non, b, h => by cases b <;> simp_all [D.same]
  | .bl a, b, h => by cases b <;> simp_all [D.same]
  | .int a, b, h => by cases b <;> simp_all [D.same]
  | .str a, b, h => by cases b <;> simp_all [D.same]
  | .lst a, b, h => by
    cases b <;> simp [D.same] at h
    rw [D.sames_eq a _ h]
  | .tup a, b, h => by
    cases b <;> simp [D.same] at h
    rw [D.sames_eq a _ h]
  | .dct k a, b, h => by
    cases b <;> simp [D.same] at h
    rw [h.1, D.sames_eq a _ h.2]
  | .obj c n a, b, h => by
    cases b <;> simp [D.same] at h
    rw [h.1.1, h.1.2, D.sames_eq a _ h.2]
  | .exn c n a, b, h => by
    cases b <;> simp [D.same] at h
    rw [h.1.1, h.1.2, D.sames_eq a _ h.2]
  | .fn a, b, h => by cases b <;> simp_all [D.same]
  | .scr a, b, h => by cases b <;> simp_all [D.same]
  | .cell a, b, h => by cases b <;> simp_all [D.same]
theorem D.sames_eq : ∀ a b : List D, D.sames a b = true → a = b
  | [], [], _ => rfl
  | [], _ :: _, h => by simp [D.sames] at h
  | _ :: _, [], h => by simp [D.sames] at h
  | a :: r, b :: s, h => by
    simp [D.sames] at h
    rw [D.same_eq a b h.1, D.sames_eq r s h.2]
end
instance : DecidableEq D := fun a b =>
  if h : D.same a b = true then isTrue (D.same_eq a b h) else isFalse fun e => h (e ▸ D.same_refl a)

/-- what still changes: a list, an instance (an error, too) that is being made or that changes, a dict -/
inductive M where
  | lst (xs : List D)
  | ins (c : Nat) (ns : List Nat) (vs : List D)
  | dct (ks : List Key) (vs : List D)
  /-- a list that stays as it is, with things in it that change -/
  | lsc (xs : List D)
  | dead
deriving DecidableEq
abbrev Mu := List M

inductive R (α : Type) where
  | ok (a : α) (μ : Mu)
  | exc (c : Nat) (ns : List Nat) (vs : List D) (μ : Mu)
  | stuck
def R.bind {α β : Type} : R α → (α → Mu → R β) → R β
  | .ok a μ, f => f a μ
  | .exc c ns vs μ, _ => .exc c ns vs μ
  | .stuck, _ => .stuck
/-- where nothing may be raised -/
def R.calm {α : Type} : R α → R α
  | .ok a μ => .ok a μ
  | _ => .stuck
@[simp] theorem R.ok_bind {α β : Type} (a : α) (μ : Mu) (f : α → Mu → R β) : (R.ok a μ).bind f = f a μ := rfl
@[simp] theorem R.exc_bind {α β : Type} (c ns vs μ) (f : α → Mu → R β) : (R.exc c ns vs μ).bind f = R.exc c ns vs μ := rfl
@[simp] theorem R.stuck_bind {α β : Type} (f : α → Mu → R β) : (R.stuck).bind f = R.stuck := rfl

/-! ### syntax -/
inductive Ty where
  | int | bool | str | list | tuple | dict | cls (c : Nat)
deriving DecidableEq
inductive Op where
  | add | sub | mul | fdiv | mod | pow | neg | not
  | eq | ne | lt | le | gt | ge | isN | notN | inn | nin
  | idx | rev
  | len | abs | toi | tos | tosO | repr | totup | tolst | lrng | lrng2 | trng | max1 | min1 | max2 | min2 | srt | srtset | lenset | tob | all | any | sum
  | isi (ts : List Ty)
  | app | ext | index | count | countT | pop1 | pop0 | popA | join | split
  | clsn
  /-- is a truth -/
  | isT (b : Bool) | notT (b : Bool)
  /-- in a tuple of instances -/
  | inO
  /-- a table of the top, its keys texts: [..], get(.., ..) -/
  | kidx (t : List (Str × D)) | kget (t : List (Str × D))
deriving DecidableEq
inductive ItK where
  | seq | rng1 | rng2 | zip | enum
deriving DecidableEq
inductive G where
  | nm (i : Nat) | tp (is : List Nat)
deriving DecidableEq
inductive E where
  | v (i : Nat) | c (d : D)
  | op (o : Op) (es : List E)
  | and (a b : E) | or (a b : E) | ife (c a b : E)
  | chn (o1 o2 : Op) (a b c : E)
  | tup (es : List E) | lst (es : List E) | st (e : E)
  | dct (ks : List Key) (vs : List E)
  | call (f : Nat) (es : List E) (pm : List Nat)
  | mk (c : Nat) (es : List E) (pm : List Nat)
  | mth (m : Nat) (e : E) (es : List E) (pm : List Nat)
  | bm (o : Op) (e : E) (es : List E)
  | sl0 (a : E) | slL (a l : E) | slU (a u : E) | slB (a l u : E)
  | fld (e : E) (f : Nat)
  | frz (e : E)
  /-- a new list, dict that will change -/
  | nw (e : E)
  | cmp (ow : List Nat) (elt : E) (g : G) (k : ItK) (es cs : List E)
  | cmp2 (ow ow1 : List Nat) (elt : E) (g : G) (k : ItK) (es cs : List E) (g1 : G) (k1 : ItK) (es1 cs1 : List E)
  /-- one for; what its element raises is let out -/
  | cmpR (ow : List Nat) (elt : E) (g : G) (k : ItK) (es cs : List E)
  /-- a lambda without parameters, handed to a def that calls it within a try -/
  | lam (g : Nat) (e : E)
inductive S where
  | set (i : Nat) (e : E)
  | new (i : Nat) (e : E)
  | unp (is : List Nat) (e : E)
  | par (is : List Nat) (es : List E)
  | sti (o i e : E)
  | stf (o : E) (f : Nat) (e : E)
  | ex (e : E) | ret (e : E) | ret0 | retn (e : E)
  | ife (c : E) (a b : List S)
  | for (g : G) (k : ItK) (es : List E) (b : List S)
  | whl (c : E) (b : List S)
  | brk | cont | pass
  | rai (c : Nat) (es : List E)
  | aug (i : Nat) (o : Op) (e : E)
structure Def where
  np : Nat
  nl : Nat
  keep : Bool
  body : List S
structure ClsI where
  mro : List Nat
  init : Option Nat
  meths : List (Nat × Nat)
  kind : Nat
  flds : List Nat
/-- a def that calls what it got: v = None; try: f() / except c as e: v = e; then a body. i: the slot of v -/
structure Ctc where
  d : Def
  c : Nat
  i : Nat
structure Tab where
  fn : Nat → Option Def
  cl : Nat → Option ClsI
  ct : Nat → Option Ctc
structure Cxt where
  T : Tab
  cf : Nat → List D → Mu → R D
  mkc : Nat → List D → Mu → R D
  lf : Nat → Nat → R D → R D
abbrev Rho := List (Option D)

/-! ### looking at data -/
/-- the most that a list, a text may have -/
abbrev LN : Nat := 16777216
def D.isCell : D → Bool
  | .cell _ => true
  | _ => false
def seqOf (μ : Mu) : D → Option (List D)
  | .lst xs => some xs
  | .tup xs => some xs
  | .cell n => match μ[n]? with
    | some (.lst xs) => some xs
    | _ => none
  | _ => none
def lstOf (μ : Mu) : D → Option (List D)
  | .lst xs => some xs
  | .cell n => match μ[n]? with
    | some (.lst xs) => some xs
    | _ => none
  | _ => none
def lscOf (μ : Mu) : D → Option (List D)
  | .cell n => match μ[n]? with
    | some (.lsc xs) => some xs
    | _ => none
  | _ => none
/-- a thing that changes, as it is now -/
def nrm (μ : Mu) : D → D
  | .cell n => match μ[n]? with
    | some (.lst xs) => .lst xs
    | _ => .cell n
  | d => d
/-! plain data within a depth -/
mutual
def dat : D → Nat → Bool
  | .non, _ => true
  | .bl _, _ => true
  | .int _, _ => true
  | .str x, _ => PyData.strOk x
  | .lst _, 0 => false
  | .lst xs, n + 1 => datL xs n
  | .tup _, 0 => false
  | .tup xs, n + 1 => datL xs n
  | _, _ => false
def datL : List D → Nat → Bool
  | [], _ => true
  | x :: xs, n => dat x n && datL xs n
end
/-! == as Python has it -/
mutual
def eqv : D → D → Bool
  | .non, .non => true
  | .bl a, .bl b => a == b
  | .bl a, .int j => decide ((if a then 1 else 0) = j)
  | .int i, .bl b => decide (i = (if b then 1 else 0))
  | .int i, .int j => decide (i = j)
  | .str x, .str y => decide (x = y)
  | .lst xs, .lst ys => eqvL xs ys
  | .tup xs, .tup ys => eqvL xs ys
  | _, _ => false
def eqvL : List D → List D → Bool
  | [], [] => true
  | x :: xs, y :: ys => eqv x y && eqvL xs ys
  | _, _ => false
end
/-! data as the library has it -/
mutual
def toP : D → PyData
  | .non => .none
  | .bl b => .bool b
  | .int i => .int i
  | .str x => .str x
  | .lst xs => .list (toPs xs)
  | .tup xs => .tuple (toPs xs)
  | _ => .none
def toPs : List D → List PyData
  | [] => []
  | x :: r => toP x :: toPs r
end
/-- its text, where there is one -/
def reprD (d : D) : Option Str := if dat d 60 && (toP d).showable && decide ((toP d).shown.length ≤ LN) then some (toP d).shown else none
def lk : List Nat → List D → Nat → Option D
  | n :: ns, v :: vs, f => if n = f then some v else lk ns vs f
  | _, _, _ => none
def put : List Nat → List D → Nat → D → List Nat × List D
  | n :: ns, v :: vs, f, d => if n = f then (n :: ns, d :: vs) else ((n :: (put ns vs f d).1), (v :: (put ns vs f d).2))
  | _, _, f, d => ([f], [d])
def intsOf : List D → Option (List Int)
  | [] => some []
  | .int i :: r => (intsOf r).map (i :: ·)
  | _ => none
def blsOf : List D → Option (List Bool)
  | [] => some []
  | .bl i :: r => (blsOf r).map (i :: ·)
  | _ => none
def strsOf : List D → Option (List Str)
  | [] => some []
  | .str i :: r => (strsOf r).map (i :: ·)
  | _ => none
/-- a place from a number that may count from behind -/
abbrev ixOf (n : Nat) (i : Int) : Option Nat := L2.ixN n i
def cut {α : Type} (xs : List α) (lo hi : Option Int) : List α :=
  (xs.drop (HT.sIx xs.length 0 lo)).take (HT.sIx xs.length xs.length hi - HT.sIx xs.length 0 lo)
/-- ascending, each once -/
def insI (x : Int) : List Int → List Int
  | [] => [x]
  | y :: r => if x < y then x :: y :: r else if x = y then y :: r else y :: insI x r
def setI : List Int → List Int
  | [] => []
  | x :: r => insI x (setI r)
def insS (x : Int) : List Int → List Int
  | [] => [x]
  | y :: r => if x ≤ y then x :: y :: r else y :: insS x r
def sortI : List Int → List Int
  | [] => []
  | x :: r => insS x (sortI r)

/-! ### operations -/
section
variable (cx : Cxt)
def okB (b : Bool) (μ : Mu) : R D := .ok (.bl b) μ
/-- an instance of the class c, is it of this type; types of the program stand in the table -/
def tyC (c : Nat) (t : Ty) : Option Bool := match cx.T.cl c, t with
  | some i, .cls k => if i.kind < 2 then (cx.T.cl k).map fun _ => decide (k ∈ i.mro) else none
  | some i, _ => if i.kind < 2 then some false else none
  | none, _ => none
/-- an error of the class c, is it of this class -/
def tyX (c : Nat) (t : Ty) : Option Bool := match cx.T.cl c, t with
  | some i, .cls k => if i.kind = 2 then (cx.T.cl k).bind fun j => if j.kind < 2 then none else some (decide (k ∈ i.mro)) else none
  | _, _ => none
def tyB (a : Ty) (t : Ty) : Option Bool := match t with
  | .cls k => (cx.T.cl k).map fun _ => false
  | t => some (decide (t = a))
def tyIs (μ : Mu) : D → Ty → Option Bool
  | .non, .cls k => tyB cx .int (.cls k)
  | .non, _ => some false
  | .bl _, .int => some true
  | .bl _, t => tyB cx .bool t
  | .int _, t => tyB cx .int t
  | .str _, t => tyB cx .str t
  | .lst _, t => tyB cx .list t
  | .tup _, t => tyB cx .tuple t
  | .dct _ _, t => tyB cx .dict t
  | .obj c _ _, t => tyC cx c t
  | .exn c _ _, t => tyX cx c t
  | .fn _, _ => none
  | .scr _, _ => none
  | .cell n, t => match μ[n]? with
    | some (.lst _) => tyB cx .list t
    | some (.ins c _ _) => tyC cx c t
    | some (.dct _ _) => tyB cx .dict t
    | _ => none
def tyAny (μ : Mu) (d : D) : List Ty → Option Bool
  | [] => some false
  | t :: ts => match tyIs cx μ d t with
    | some true => some true
    | some false => tyAny μ d ts
    | none => none
def methOf (c m : Nat) : Option Nat := match cx.T.cl c with
  | some k => k.meths.lookup m
  | none => none
/-- the names of methods that the language asks for -/
abbrev mEq : Nat := 1
abbrev mBool : Nat := 2
abbrev mStr : Nat := 3
/-- a value whose type is known -/
def tyKn (d : D) : Bool := match d with
  | .non | .bl _ | .int _ | .str _ | .lst _ | .tup _ | .dct _ _ => true
  | .obj c _ _ => (match cx.T.cl c with
    | some i => decide (i.kind < 2)
    | none => false)
  | _ => false
def eqD (a b : D) (μ : Mu) : R Bool := match nrm μ a, nrm μ b with
  | .obj c _ _, y => (match methOf cx c mEq, tyKn cx y with
    | some f, true => (cx.cf f [a, b] μ).calm.bind fun r μ => match r with
      | .bl k => .ok k μ
      | _ => .stuck
    | _, _ => .stuck)
  | x, y => match dat x 60 && dat y 60 with
    | true => .ok (eqv x y) μ
    | false => (match x, y with
      | .tup (_ :: _), .tup [] => .ok false μ
      | _, _ => .stuck)
/-- parts that are ints, tuples of ints -/
def flatD : D → Bool
  | .int _ => true
  | .tup xs => (intsOf xs).isSome
  | _ => false
/-- two instances that are surely not one -/
def apart : D → D → Bool
  | .obj _ _ vs, .obj _ _ us => vs.all flatD && (us.all flatD && decide (vs ≠ us))
  | _, _ => false
/-- is it in a tuple of instances -/
def inO (a : D) : List D → Mu → R D
  | [], μ => .ok (.bl false) μ
  | x :: r, μ => match x, a with
    | .obj _ _ _, .obj _ _ _ => (match eqD cx x a μ with
      | .ok k μ' => if μ' = μ then (match k with
        | true => .ok (.bl true) μ
        | false => if apart x a = true then inO a r μ else .stuck) else .stuck
      | _ => .stuck)
    | _, _ => .stuck
/-- a table's entry -/
def tlk : List (Str × D) → Str → Option D
  | (k, d) :: r, z => if k = z then some d else tlk r z
  | [], _ => none
def trD (d : D) (μ : Mu) : R Bool := match d with
  | .non => .ok false μ
  | .bl b => .ok b μ
  | .int i => .ok (decide (i ≠ 0)) μ
  | .str x => if x.length ≤ LN then .ok (decide (x.length ≠ 0)) μ else .stuck
  | .lst xs => .ok (!xs.isEmpty) μ
  | .tup xs => .ok (!xs.isEmpty) μ
  | .dct ks _ => .ok (!ks.isEmpty) μ
  | .obj c _ _ => (match cx.T.cl c with
    | some _ => .stuck
    | none => .stuck)
  | .cell n => match μ[n]? with
    | some (.lst xs) => .ok (!xs.isEmpty) μ
    | _ => .stuck
  | _ => .stuck
def addD (a b : D) (μ : Mu) : R D := match a, b with
  | .int i, .int j => .ok (.int (i + j)) μ
  | .str x, .str y => if x.length + y.length ≤ LN then .ok (.str (x ++ y)) μ else .stuck
  | .tup xs, .tup ys => if xs.length + ys.length ≤ LN then .ok (.tup (xs ++ ys)) μ else .stuck
  | a, b => match lstOf μ a, lstOf μ b with
    | some xs, some ys => if xs.length + ys.length ≤ LN then .ok (.lst (xs ++ ys)) μ else .stuck
    | _, _ => .stuck
/-- a text, so many times -/
def repS (x : Str) (k : Nat) : Str := ⟨(List.replicate k x.cps).foldl (· ++ ·) #[]⟩
def mulD (a b : D) (μ : Mu) : R D := match a, b with
  | .str x, .int k => if 2 ≤ k ∧ k ≤ 10000 ∧ 1 ≤ x.length ∧ x.length ≤ 100 then .ok (.str (repS x k.toNat)) μ else .stuck
  | .int i, .int j => if (-(2 ^ 64) < i ∧ i < 2 ^ 64) ∨ (-(2 ^ 64) < j ∧ j < 2 ^ 64) then .ok (.int (i * j)) μ else .stuck
  | .tup xs, .int k => if k ≤ 1 ∧ -1000 ≤ k ∧ xs.length ≤ 1000 then .ok (.tup (List.replicate k.toNat xs).flatten) μ else .stuck
  | a, .int k => match lstOf μ a with
    | some xs => if k ≤ 1000 ∧ -1000 ≤ k ∧ xs.length ≤ 1000 then .ok (.lst (List.replicate k.toNat xs).flatten) μ else .stuck
    | _ => .stuck
  | _, _ => .stuck
/-- what a dict holds; what is a key -/
def dcOf (μ : Mu) : D → Option (List Key × List D)
  | .dct ks xs => some (ks, xs)
  | .cell n => (match μ[n]? with
    | some (.dct ks xs) => some (ks, xs)
    | _ => none)
  | _ => none
def keyOf : D → Option Key
  | .int i => some (.inl i)
  | .str x => some (.inr x)
  | _ => none
def dget : List Key → List D → Key → Option D
  | k :: ks, x :: xs, j => if k = j then some x else dget ks xs j
  | _, _, _ => none
def hasK (ks : List Key) (k : Key) : Bool := ks.any fun j => decide (j = k)
def dputK (ks : List Key) (k : Key) : List Key := if hasK ks k = true then ks else ks ++ [k]
def dput (ks : List Key) (xs : List D) (k : Key) (d : D) : List D := if hasK ks k = true then (ks.zip xs).map (fun p => if p.1 = k then d else p.2) else xs ++ [d]
def idxD (a b : D) (μ : Mu) : R D := match a, b with
  | .str x, .int i => (match ixOf x.length i with
    | some j => (match x.cps[j]? with
      | some c => if x.length ≤ LN then .ok (.str ⟨#[c]⟩) μ else .stuck
      | none => .stuck)
    | none => .stuck)
  | a, b => match dcOf μ a with
    | some (ks, xs) => (match keyOf b with
      | some k => (match dget ks xs k with
        | some d => .ok d μ
        | none => .stuck)
      | none => .stuck)
    | none => (match b with
      | .int i => (match seqOf μ a with
        | some xs => (match ixOf xs.length i with
          | some j => (match xs[j]? with
            | some d => .ok d μ
            | none => .stuck)
          | none => .stuck)
        | none => (match lscOf μ a with
          | some xs => (match ixOf xs.length i with
            | some j => (match xs[j]? with
              | some d => .ok d μ
              | none => .stuck)
            | none => .stuck)
          | none => .stuck))
      | _ => .stuck)
def slcD (a : D) (lo hi : Option Int) (μ : Mu) : R D := match a with
  | .tup xs => .ok (.tup (cut xs lo hi)) μ
  | .scr ns => .ok (.lst ((cut ns lo hi).map .int)) μ
  | .str x => if x.length ≤ LN then .ok (.str ⟨(cut x.cps.toList lo hi).toArray⟩) μ else .stuck
  | a => match lstOf μ a with
    | some xs => .ok (.lst (cut xs lo hi)) μ
    | none => .stuck
def innD (a b : D) (μ : Mu) : R Bool := match b with
  | .str z => (match a with
    | .str y => if y.cps.size = 1 then .ok (decide (y.cps.getD 0 0 ∈ z.cps.toList)) μ else .stuck
    | _ => .stuck)
  | b => match dcOf μ b with
    | some (ks, _) => (match keyOf a with
      | some k => .ok (hasK ks k) μ
      | none => .stuck)
    | none => match seqOf μ b with
      | some xs => (match dat (nrm μ a) 60 && datL xs 60 with
        | true => .ok (xs.any fun x => eqv x (nrm μ a)) μ
        | false => .stuck)
      | none => .stuck
def lenD (a : D) (μ : Mu) : R D := match a with
  | .str x => if x.length ≤ LN then .ok (.int (x.length : Nat)) μ else .stuck
  | .dct ks _ => .ok (.int (ks.length : Nat)) μ
  | a => match seqOf μ a with
    | some xs => .ok (.int (xs.length : Nat)) μ
    | none => (match lscOf μ a with
      | some xs => .ok (.int (xs.length : Nat)) μ
      | none => .stuck)
def idxOf? (d : D) : List D → Nat → Option Nat
  | [], _ => none
  | x :: r, k => if eqv x d then some k else idxOf? d r (k + 1)
def ints2 (xs : List D) : Option (Int × List Int) := match intsOf xs with
  | some (i :: r) => some (i, r)
  | _ => none
def rngD (lo hi : Int) : List D := (List.range (hi - lo).toNat).map fun k => .int (lo + (k : Nat))
def opD : Op → List D → Mu → R D
  | .add, [a, b], μ => addD a b μ
  | .sub, [.int i, .int j], μ => .ok (.int (i - j)) μ
  | .mul, [a, b], μ => mulD a b μ
  | .fdiv, [.int i, .int j], μ => if 0 < j ∧ j < 1073741824 then .ok (.int (i / j)) μ else .stuck
  | .mod, [.int i, .int j], μ => if 0 < j then .ok (.int (i % j)) μ else .stuck
  | .pow, [.int i, .int j], μ => if 0 ≤ j ∧ j ≤ 1000000 ∧ i.natAbs < 2 ^ 64 then .ok (.int (i ^ j.toNat)) μ else .stuck
  | .neg, [.int i], μ => .ok (.int (-i)) μ
  | .not, [a], μ => (trD cx a μ).bind fun b μ => okB (!b) μ
  | .eq, [a, b], μ => (eqD cx a b μ).bind okB
  | .ne, [a, b], μ => (eqD cx a b μ).bind fun b μ => okB (!b) μ
  | .lt, [.int i, .int j], μ => okB (decide (i < j)) μ
  | .le, [.int i, .int j], μ => okB (decide (i ≤ j)) μ
  | .gt, [.int i, .int j], μ => okB (decide (j < i)) μ
  | .ge, [.int i, .int j], μ => okB (decide (j ≤ i)) μ
  | .isN, [a], μ => okB (decide (a = .non)) μ
  | .notN, [a], μ => okB (!decide (a = .non)) μ
  | .inn, [a, b], μ => (innD a b μ).bind okB
  | .nin, [a, b], μ => (innD a b μ).bind fun b μ => okB (!b) μ
  | .idx, [a, b], μ => idxD a b μ
  | .rev, [.tup xs], μ => .ok (.tup xs.reverse) μ
  | .rev, [a], μ => (match lstOf μ a with
    | some xs => if xs.length ≤ LN then .ok (.lst xs.reverse) μ else .stuck
    | none => .stuck)
  | .len, [a], μ => lenD a μ
  | .abs, [.int i], μ => .ok (.int (if i < 0 then -i else i)) μ
  | .toi, [.int i], μ => .ok (.int i) μ
  | .toi, [.bl b], μ => .ok (.int (if b then 1 else 0)) μ
  | .toi, [.str x], μ => (match intText? x with
    | some n => if x.length ≤ 640 then .ok (.int n) μ else .stuck
    | none => .stuck)
  | .tos, [.int i], μ => if i.natAbs.log2 < 1920 then .ok (.str (toString i)) μ else .stuck
  | .tosO, [.obj c ns vs], μ => (match methOf cx c mStr with
    | some f => (cx.cf f [.obj c ns vs] μ).calm.bind fun r μ => match r with
      | .str x => .ok (.str x) μ
      | _ => .stuck
    | none => .stuck)
  | .lrng, [.int i], μ => if i ≤ LN ∧ -LN ≤ i then .ok (.lst (rngD 0 i)) μ else .stuck
  | .trng, [.int i], μ => if i ≤ LN ∧ -LN ≤ i then .ok (.tup (rngD 0 i)) μ else .stuck
  | .repr, [a], μ => (match reprD (nrm μ a) with
    | some x => .ok (.str x) μ
    | none => .stuck)
  | .join, [.str x, b], μ => (match seqOf μ b with
    | some xs => (match strsOf xs with
      | some ys => if (ys.map (·.length)).sum + ys.length * x.length ≤ LN then .ok (.str (Txt.join x ys)) μ else .stuck
      | none => .stuck)
    | none => .stuck)
  | .split, [.str x, .str y], μ => if (y.length == 0) = false ∧ x.length + 2 ≤ LN ∧ (Txt.split x y).length ≤ LN then .ok (.lst ((Txt.split x y).map .str)) μ else .stuck
  | .totup, [a], μ => (match seqOf μ a with
    | some xs => .ok (.tup xs) μ
    | none => .stuck)
  | .tolst, [a], μ => (match seqOf μ a with
    | some xs => .ok (.lst xs) μ
    | none => .stuck)
  | .max1, [a], μ => (match seqOf μ a with
    | some xs => (match ints2 xs with
      | some (i, r) => .ok (.int (r.foldl max i)) μ
      | none => .stuck)
    | none => .stuck)
  | .min1, [a], μ => (match seqOf μ a with
    | some xs => (match ints2 xs with
      | some (i, r) => .ok (.int (r.foldl min i)) μ
      | none => .stuck)
    | none => .stuck)
  | .max2, [.int i, .int j], μ => .ok (.int (if j > i then j else i)) μ
  | .min2, [.int i, .int j], μ => .ok (.int (if j < i then j else i)) μ
  | .all, [a], μ => (match lstOf μ a with
    | some xs => (match blsOf xs with
      | some bs => okB (bs.all id) μ
      | none => .stuck)
    | none => .stuck)
  | .any, [a], μ => (match lstOf μ a with
    | some xs => (match blsOf xs with
      | some bs => okB (bs.any id) μ
      | none => .stuck)
    | none => .stuck)
  | .isi ts, [a], μ => (match tyAny cx μ a ts with
    | some b => okB b μ
    | none => .stuck)
  | .app, [.cell n, d], μ => (match μ[n]? with
    | some (.lst xs) => if d.isCell then .stuck else if xs.length < LN then .ok .non (μ.set n (.lst (xs ++ [d]))) else .stuck
    | _ => .stuck)
  | .ext, [.cell n, .lst ys], μ => (match μ[n]? with
    | some (.lst xs) => if xs.length + ys.length ≤ LN then .ok .non (μ.set n (.lst (xs ++ ys))) else .stuck
    | _ => .stuck)
  | .index, [a, d], μ => (match lstOf μ a with
    | some xs => (match dat (nrm μ d) 60 && datL xs 60 with
      | true => (match idxOf? (nrm μ d) xs 0 with
        | some k => .ok (.int (k : Nat)) μ
        | none => .stuck)
      | false => .stuck)
    | none => .stuck)
  | .count, [a, .int i], μ => (match lstOf μ a with
    | some xs => (match intsOf xs with
      | some ns => .ok (.int ((ns.count i : Nat) : Int)) μ
      | none => .stuck)
    | none => .stuck)
  | .countT, [.tup xs, .int i], μ => (match intsOf xs with
    | some ns => .ok (.int ((ns.count i : Nat) : Int)) μ
    | none => .stuck)
  | .srt, [.tup xs], μ => (match intsOf xs with
    | some ns => .ok (.lst ((sortI ns).map .int)) μ
    | none => .stuck)
  | .lenset, [.tup xs], μ => (match intsOf xs with
    | some ns => if ns.length ≤ 1000 then .ok (.int (((setI ns).length : Nat) : Int)) μ else .stuck
    | none => .stuck)
  | .popA, [.cell n, .int i], μ => (match μ[n]? with
    | some (.lst xs) => if 0 ≤ i then (match xs[i.toNat]? with
      | some d => .ok d (μ.set n (.lst (xs.eraseIdx i.toNat)))
      | none => .stuck) else .stuck
    | _ => .stuck)
  | .pop1, [.cell n], μ => (match μ[n]? with
    | some (.lst xs) => (match xs[xs.length - 1]? with
      | some d => .ok d (μ.set n (.lst xs.dropLast))
      | none => .stuck)
    | _ => .stuck)
  | .isT k, [.bl b], μ => okB (decide (b = k)) μ
  | .notT k, [.bl b], μ => okB (!decide (b = k)) μ
  | .inO, [a, .tup xs], μ => inO cx a xs μ
  | .kidx t, [.str z], μ => (match tlk t z with
    | some d => .ok d μ
    | none => .stuck)
  | .kget t, [.str z, d], μ => .ok ((tlk t z).getD d) μ
  | _, _, _ => .stuck
/-- what is walked -/
def zipD : List D → List D → List D
  | x :: xs, y :: ys => .tup [x, y] :: zipD xs ys
  | _, _ => []
def enumD : Nat → List D → List D
  | _, [] => []
  | k, x :: r => .tup [.int (k : Nat), x] :: enumD (k + 1) r
/-- the signs of a text -/
def signs (z : Str) : List D := z.cps.toList.map fun c => .str ⟨#[c]⟩
def itD (k : ItK) (ds : List D) (μ : Mu) : Option (List D) := match k, ds with
  | .seq, [a] => (match a with
    | .str z => some (signs z)
    | a => seqOf μ a)
  | .rng1, [.int i] => if i ≤ LN ∧ -LN ≤ i then some (rngD 0 i) else none
  | .rng2, [.int i, .int j] => if -LN ≤ i ∧ i ≤ LN ∧ j ≤ LN ∧ -LN ≤ j then some (rngD i j) else none
  | .zip, [a, b] => (match lstOf μ a, lstOf μ b with
    | some xs, some ys => some (zipD xs ys)
    | some xs, none => (match b with
      | .tup ys => some (zipD xs ys)
      | _ => none)
    | _, _ => (match a, b with
      | .tup xs, .tup ys => some (zipD xs ys)
      | _, _ => none))
  | .enum, [a] => (match lstOf μ a with
    | some xs => some (enumD 0 xs)
    | none => none)
  | _, _ => none
/-- what is walked stands still: things that change are as they were -/
def still (ds : List D) (μ0 μ : Mu) : Bool := ds.all fun d => match d with
  | .cell n => decide (μ0[n]? = μ[n]?)
  | _ => true
def tgt (g : G) (x : D) (ρ : Rho) (μ : Mu) : Option Rho := match g with
  | .nm i => some (ρ.set i (some x))
  | .tp is => match seqOf μ x with
    | some xs => if xs.length = is.length then some ((is.zip xs).foldl (fun ρ p => ρ.set p.1 (some p.2)) ρ) else none
    | none => none
def wipeR (ρ : Rho) (ow : List Nat) : Rho := ow.foldl (fun ρ i => ρ.set i none) ρ
def perm (pm : List Nat) (vs : List D) : Option (List D) := pm.mapM fun i => vs[i]?
end

/-! ### what it computes -/
inductive F where
  | nx (ρ : Rho) | ret (d : D) | brk (ρ : Rho) | cont (ρ : Rho)
def compL (still : Mu → Bool) (f : D → Mu → R (Option D)) : List D → List D → Mu → R (List D)
  | [], acc, μ => if still μ then .ok acc μ else .stuck
  | x :: xs, acc, μ => if still μ then (f x μ).calm.bind fun o μ => match o with
      | some y => if y.isCell then .stuck else compL still f xs (acc ++ [y]) μ
      | none => compL still f xs acc μ
    else .stuck
def compR (still : Mu → Bool) (f : D → Mu → R (Option D)) : List D → List D → Mu → R (List D)
  | [], acc, μ => if still μ then .ok acc μ else .stuck
  | x :: xs, acc, μ => if still μ then (f x μ).bind fun o μ => match o with
      | some y => if y.isCell then .stuck else compR still f xs (acc ++ [y]) μ
      | none => compR still f xs acc μ
    else .stuck
def compO (still : Mu → Bool) (f : D → List D → Mu → R (List D)) : List D → List D → Mu → R (List D)
  | [], acc, μ => if still μ then .ok acc μ else .stuck
  | x :: xs, acc, μ => if still μ then (f x acc μ).calm.bind fun acc μ => compO still f xs acc μ else .stuck
def forL (still : Mu → Bool) (g : G) (b : Rho → Mu → R F) : List D → Rho → Mu → R F
  | [], ρ, μ => if still μ then .ok (.nx ρ) μ else .stuck
  | x :: xs, ρ, μ => if still μ then (match tgt g x ρ μ with
      | some ρ1 => (b ρ1 μ).bind fun f μ => match f with
        | .nx ρ2 => forL still g b xs ρ2 μ
        | .cont ρ2 => forL still g b xs ρ2 μ
        | .brk ρ2 => .ok (.nx ρ2) μ
        | .ret d => .ok (.ret d) μ
      | none => .stuck)
    else .stuck
def whlL (c : Rho → Mu → R Bool) (b : Rho → Mu → R F) : Nat → Rho → Mu → R F
  | 0, _, _ => .stuck
  | n + 1, ρ, μ => (c ρ μ).bind fun k μ => match k with
    | true => (b ρ μ).bind fun f μ => match f with
      | .nx ρ2 => whlL c b n ρ2 μ
      | .cont ρ2 => whlL c b n ρ2 μ
      | .brk ρ2 => .ok (.nx ρ2) μ
      | .ret d => .ok (.ret d) μ
    | false => .ok (.nx ρ) μ
def keysOf : List D → Option (List Key)
  | [] => some []
  | .int i :: r => (keysOf r).map (Sum.inl i :: ·)
  | .str x :: r => (keysOf r).map (Sum.inr x :: ·)
  | _ => none
def anyCell (vs : List D) : Bool := vs.any D.isCell
def thaw (d : D) (μ : Mu) : Option (D × Mu) := match d with
  | .lst xs => some (.cell μ.length, μ ++ [.lst xs])
  | .dct ks vs => some (.cell μ.length, μ ++ [.dct ks vs])
  | _ => none
/-- a new thing, kept as one that changes -/
def thawR (d : D) (μ : Mu) : R D := match thaw d μ with
  | some (d', μ') => .ok d' μ'
  | none => .stuck
def nwR (nw : Bool) (r : R D) : R D := match nw with
  | true => r.bind thawR
  | false => r
section
variable (cx : Cxt)
def okBl (b : Bool) (μ : Mu) : R D := .ok (.bl b) μ
/-- as a value; as a test -/
def fin (m : Bool) (r : R D) : R D := match m with
  | true => r.bind fun d μ => (trD cx d μ).bind okBl
  | false => r
def toB : R D → R Bool
  | .ok (.bl k) μ => .ok k μ
  | .ok _ _ => .stuck
  | .exc c ns vs μ => .exc c ns vs μ
  | .stuck => .stuck
def getV (i : Nat) (ρ : Rho) (μ : Mu) : R D := match ρ[i]? with
  | some (some d) => .ok d μ
  | _ => .stuck
def mkTup (vs : List D) (μ : Mu) : R D := if anyCell vs then .stuck else if vs.length ≤ LN then .ok (.tup vs) μ else .stuck
def mkLst (vs : List D) (μ : Mu) : R D := if anyCell vs then (if vs.length ≤ LN then .ok (.cell μ.length) (μ ++ [.lsc vs]) else .stuck) else if vs.length ≤ LN then .ok (.lst vs) μ else .stuck
def mkDct (ks : List Key) (vs : List D) (μ : Mu) : R D := if anyCell vs then .stuck else if ks.Nodup ∧ ks.length = vs.length then .ok (.dct ks vs) μ else .stuck
def callP (f : Nat) (pm : List Nat) (vs : List D) (μ : Mu) : R D := match perm pm vs with
  | some ws => cx.cf f ws μ
  | none => .stuck
def makeP (c : Nat) (pm : List Nat) (vs : List D) (μ : Mu) : R D := match perm pm vs with
  | some ws => cx.mkc c ws μ
  | none => .stuck
/-- the class of an instance -/
def insOf (μ : Mu) : D → Option (Nat × List Nat)
  | .obj c ns _ => some (c, ns)
  | .cell n => match μ[n]? with
    | some (.ins c ns _) => some (c, ns)
    | _ => none
  | _ => none
/-- the method m of what this is -/
def metF (m : Nat) (d : D) (μ : Mu) : Option Nat := match insOf μ d with
  | some (c, ns) => if m ∈ ns then none else methOf cx c m
  | none => none
/-- has the class c, of this kind, the part f -/
def hasF (b : Bool) (c f : Nat) : Bool := match cx.T.cl c with
  | some i => decide (f ∈ i.flds) && (if b then decide (i.kind = 2) else decide (i.kind < 2))
  | none => false
def fldO (f : Nat) (d : D) (μ : Mu) : Option D := match d with
  | .obj c ns vs => if hasF cx false c f then lk ns vs f else none
  | .exn c ns vs => if hasF cx true c f then lk ns vs f else none
  | .cell n => (match μ[n]? with
    | some (.ins c ns vs) => if hasF cx false c f then lk ns vs f else none
    | _ => none)
  | _ => none
def fldD (f : Nat) (d : D) (μ : Mu) : R D := match fldO cx f d μ with
  | some v => .ok v μ
  | none => .stuck
/-- what has the method -/
def recvOk (o : Op) (μ : Mu) (d : D) : Bool := match o with
  | .app | .ext | .index | .count | .pop1 | .pop0 | .popA => (lstOf μ d).isSome
  | .countT => (match d with
    | .tup _ => true
    | _ => false)
  | .join | .split => (match d with
    | .str _ => true
    | _ => false)
  | _ => false
def frzD (d : D) (μ : Mu) : R D := match d with
  | .cell n => (match μ[n]? with
    | some (.lst xs) => if xs.length ≤ LN then .ok (.lst xs) (μ.set n .dead) else .stuck
    | _ => .stuck)
  | _ => .stuck
def starD (d : D) (μ : Mu) (k : Mu → R (List D)) : R (List D) := match seqOf μ d with
  | some xs => (k μ).bind fun vs μ => .ok (xs ++ vs) μ
  | none => .stuck
mutual
def evx : E → Bool → Rho → Mu → R D
  | .v i, m, ρ, μ => fin cx m (getV i ρ μ)
  | .c d, m, _, μ => fin cx m (.ok d μ)
  | .op .not [a], _, ρ, μ => (toB (evx a true ρ μ)).bind fun k μ => okBl (!k) μ
  | .op o es, m, ρ, μ => fin cx m ((evs es ρ μ).bind fun vs μ => opD cx o vs μ)
  | .and a b, false, ρ, μ => (evx a false ρ μ).bind fun d μ => (trD cx d μ).bind fun k μ => match k with
    | true => evx b false ρ μ
    | false => .ok d μ
  | .and a b, true, ρ, μ => (toB (evx a true ρ μ)).bind fun k μ => match k with
    | true => evx b true ρ μ
    | false => okBl false μ
  | .or a b, false, ρ, μ => (evx a false ρ μ).bind fun d μ => (trD cx d μ).bind fun k μ => match k with
    | true => .ok d μ
    | false => evx b false ρ μ
  | .or a b, true, ρ, μ => (toB (evx a true ρ μ)).bind fun k μ => match k with
    | true => okBl true μ
    | false => evx b true ρ μ
  | .ife c a b, m, ρ, μ => (toB (evx c true ρ μ)).bind fun k μ => match k with
    | true => evx a m ρ μ
    | false => evx b m ρ μ
  | .chn o1 o2 a b c, m, ρ, μ => fin cx m ((evx a false ρ μ).bind fun x μ => (evx b false ρ μ).bind fun y μ => (toB (opD cx o1 [x, y] μ)).bind fun k μ => match k with
    | true => (evx c false ρ μ).bind fun z μ => opD cx o2 [y, z] μ
    | false => okBl false μ)
  | .tup es, m, ρ, μ => fin cx m ((evs es ρ μ).bind mkTup)
  | .lst es, m, ρ, μ => fin cx m ((evs es ρ μ).bind mkLst)
  | .st _, _, _, _ => .stuck
  | .dct ks vs, m, ρ, μ => fin cx m ((evs vs ρ μ).bind fun vs μ => mkDct ks vs μ)
  | .call f es pm, m, ρ, μ => fin cx m ((evs es ρ μ).bind fun vs μ => callP cx f pm vs μ)
  | .mk c es pm, m, ρ, μ => fin cx m ((evs es ρ μ).bind fun vs μ => makeP cx c pm vs μ)
  | .mth n e es pm, m, ρ, μ => fin cx m ((evx e false ρ μ).bind fun d μ => match metF cx n d μ with
    | some f => (evs es ρ μ).bind fun vs μ => callP cx f pm (d :: vs) μ
    | none => .stuck)
  | .bm o e es, m, ρ, μ => fin cx m ((evx e false ρ μ).bind fun d μ => if recvOk o μ d then (evs es ρ μ).bind fun vs μ => opD cx o (d :: vs) μ else .stuck)
  | .sl0 a, m, ρ, μ => fin cx m ((evx a false ρ μ).bind fun d μ => slcD d none none μ)
  | .slL a l, m, ρ, μ => fin cx m ((evx a false ρ μ).bind fun d μ => (evx l false ρ μ).bind fun i μ => match i with
    | .int i => slcD d (some i) none μ
    | _ => .stuck)
  | .slU a u, m, ρ, μ => fin cx m ((evx a false ρ μ).bind fun d μ => (evx u false ρ μ).bind fun i μ => match i with
    | .int i => slcD d none (some i) μ
    | _ => .stuck)
  | .slB a l u, m, ρ, μ => fin cx m ((evx a false ρ μ).bind fun d μ => (evx l false ρ μ).bind fun i μ => match i with
    | .int i => (evx u false ρ μ).bind fun j μ => (match j with
      | .int j => slcD d (some i) (some j) μ
      | _ => .stuck)
    | _ => .stuck)
  | .nw e, m, ρ, μ => fin cx m ((evx e false ρ μ).bind thawR)
  | .fld e f, m, ρ, μ => fin cx m ((evx e false ρ μ).bind fun d μ => fldD cx f d μ)
  | .lam g e, m, ρ, μ => fin cx m (cx.lf g μ.length (evx e false ρ μ))
  | .frz e, m, ρ, μ => fin cx m ((evx e false ρ μ).bind frzD)
  | .cmp ow elt g k es cs, m, ρ, μ => fin cx m ((evs es ρ μ).bind fun vs μ1 => match itD k vs μ1 with
    | some xs => if xs.length ≤ LN then (compL (still vs μ1) (fun x μ => match tgt g x (wipeR ρ ow) μ with
        | some ρ1 => (evc cs ρ1 μ).bind fun k μ => match k with
          | true => (evx elt false ρ1 μ).bind fun y μ => .ok (some y) μ
          | false => .ok none μ
        | none => .stuck) xs [] μ1).bind fun ys μ => .ok (.lst ys) μ else .stuck
    | none => .stuck)
  | .cmpR ow elt g k es cs, m, ρ, μ => fin cx m ((evs es ρ μ).bind fun vs μ1 => match itD k vs μ1 with
    | some xs => if xs.length ≤ LN then (compR (still vs μ1) (fun x μ => match tgt g x (wipeR ρ ow) μ with
        | some ρ1 => (evc cs ρ1 μ).calm.bind fun k μ => match k with
          | true => (evx elt false ρ1 μ).bind fun y μ => .ok (some y) μ
          | false => .ok none μ
        | none => .stuck) xs [] μ1).bind fun ys μ => .ok (.lst ys) μ else .stuck
    | none => .stuck)
  | .cmp2 ow ow1 elt g k es cs g1 k1 es1 cs1, m, ρ, μ => fin cx m ((evs es ρ μ).bind fun vs μ1 => match itD k vs μ1 with
    | some xs => if xs.length ≤ LN then (compO (still vs μ1) (fun x acc μ => match tgt g x (wipeR ρ ow) μ with
        | some ρ1 => (evc cs ρ1 μ).bind fun b μ => match b with
          | true => (evs es1 ρ1 μ).bind fun vs1 μ2 => (match itD k1 vs1 μ2 with
            | some ys => if acc.length + ys.length ≤ LN then compL (still vs1 μ2) (fun x μ => match tgt g1 x (wipeR ρ1 ow1) μ with
                | some ρ2 => (evc cs1 ρ2 μ).bind fun k μ => match k with
                  | true => (evx elt false ρ2 μ).bind fun y μ => .ok (some y) μ
                  | false => .ok none μ
                | none => .stuck) ys acc μ2 else .stuck
            | none => .stuck)
          | false => .ok acc μ
        | none => .stuck) xs [] μ1).bind fun ys μ => .ok (.lst ys) μ else .stuck
    | none => .stuck)
def evs : List E → Rho → Mu → R (List D)
  | [], _, μ => .ok [] μ
  | .st e :: r, ρ, μ => (evx e false ρ μ).bind fun d μ => starD d μ fun μ => evs r ρ μ
  | e :: r, ρ, μ => (evx e false ρ μ).bind fun d μ => (evs r ρ μ).bind fun vs μ => .ok (d :: vs) μ
def evc : List E → Rho → Mu → R Bool
  | [], _, μ => .ok true μ
  | e :: r, ρ, μ => (toB (evx e true ρ μ)).bind fun k μ => match k with
    | true => evc r ρ μ
    | false => .ok false μ
end
def ev (e : E) (ρ : Rho) (μ : Mu) : R D := evx cx e false ρ μ
def evb (e : E) (ρ : Rho) (μ : Mu) : R Bool := toB (evx cx e true ρ μ)
end

/-! ### how it unfolds -/
section
variable {cx : Cxt} {ρ : Rho} {μ : Mu}
theorem toB_fin (r : R D) : toB (fin cx true r) = r.bind fun d μ => trD cx d μ := by
  cases r with
  | ok d μ =>
    show toB ((trD cx d μ).bind okBl) = trD cx d μ
    cases trD cx d μ <;> rfl
  | exc c ns vs μ => rfl
  | stuck => rfl
theorem toB_bindB {r : R Bool} {f : Bool → Mu → R D} : toB (r.bind f) = r.bind fun k μ => toB (f k μ) := by cases r <;> rfl
theorem ev_v (i : Nat) : ev cx (.v i) ρ μ = getV i ρ μ := rfl
theorem ev_c (d : D) : ev cx (.c d) ρ μ = .ok d μ := rfl
theorem ev_op {o : Op} (h : o ≠ .not) (es : List E) : ev cx (.op o es) ρ μ = (evs cx es ρ μ).bind fun vs μ => opD cx o vs μ := by
  cases o <;> first | rfl | exact absurd rfl h
theorem ev_not (a : E) : ev cx (.op .not [a]) ρ μ = (evb cx a ρ μ).bind fun k μ => .ok (.bl (!k)) μ := rfl
theorem ev_and (a b : E) : ev cx (.and a b) ρ μ = (ev cx a ρ μ).bind fun d μ => (trD cx d μ).bind fun k μ => match k with
    | true => ev cx b ρ μ
    | false => .ok d μ := rfl
theorem ev_or (a b : E) : ev cx (.or a b) ρ μ = (ev cx a ρ μ).bind fun d μ => (trD cx d μ).bind fun k μ => match k with
    | true => .ok d μ
    | false => ev cx b ρ μ := rfl
theorem ev_ife (c a b : E) : ev cx (.ife c a b) ρ μ = (evb cx c ρ μ).bind fun k μ => match k with
    | true => ev cx a ρ μ
    | false => ev cx b ρ μ := rfl
theorem ev_chn (o1 o2 : Op) (a b c : E) : ev cx (.chn o1 o2 a b c) ρ μ = (ev cx a ρ μ).bind fun x μ => (ev cx b ρ μ).bind fun y μ => (toB (opD cx o1 [x, y] μ)).bind fun k μ => match k with
    | true => (ev cx c ρ μ).bind fun z μ => opD cx o2 [y, z] μ
    | false => .ok (.bl false) μ := rfl
theorem ev_tup (es : List E) : ev cx (.tup es) ρ μ = (evs cx es ρ μ).bind mkTup := rfl
theorem ev_lst (es : List E) : ev cx (.lst es) ρ μ = (evs cx es ρ μ).bind mkLst := rfl
theorem ev_dct (ks : List Key) (vs : List E) : ev cx (.dct ks vs) ρ μ = (evs cx vs ρ μ).bind fun vs μ => mkDct ks vs μ := rfl
theorem ev_call (f : Nat) (es : List E) (pm : List Nat) : ev cx (.call f es pm) ρ μ = (evs cx es ρ μ).bind fun vs μ => callP cx f pm vs μ := rfl
theorem ev_mk (f : Nat) (es : List E) (pm : List Nat) : ev cx (.mk f es pm) ρ μ = (evs cx es ρ μ).bind fun vs μ => makeP cx f pm vs μ := rfl
theorem ev_mth (n : Nat) (e : E) (es : List E) (pm : List Nat) : ev cx (.mth n e es pm) ρ μ = (ev cx e ρ μ).bind fun d μ => match metF cx n d μ with
    | some f => (evs cx es ρ μ).bind fun vs μ => callP cx f pm (d :: vs) μ
    | none => .stuck := rfl
theorem ev_bm (o : Op) (e : E) (es : List E) : ev cx (.bm o e es) ρ μ = (ev cx e ρ μ).bind fun d μ => if recvOk o μ d then (evs cx es ρ μ).bind fun vs μ => opD cx o (d :: vs) μ else .stuck := rfl
theorem ev_sl0 (a : E) : ev cx (.sl0 a) ρ μ = (ev cx a ρ μ).bind fun d μ => slcD d none none μ := rfl
theorem ev_slL (a l : E) : ev cx (.slL a l) ρ μ = (ev cx a ρ μ).bind fun d μ => (ev cx l ρ μ).bind fun i μ => match i with
    | .int i => slcD d (some i) none μ
    | _ => .stuck := rfl
theorem ev_slU (a u : E) : ev cx (.slU a u) ρ μ = (ev cx a ρ μ).bind fun d μ => (ev cx u ρ μ).bind fun i μ => match i with
    | .int i => slcD d none (some i) μ
    | _ => .stuck := rfl
theorem ev_slB (a l u : E) : ev cx (.slB a l u) ρ μ = (ev cx a ρ μ).bind fun d μ => (ev cx l ρ μ).bind fun i μ => match i with
    | .int i => (ev cx u ρ μ).bind fun j μ => (match j with
      | .int j => slcD d (some i) (some j) μ
      | _ => .stuck)
    | _ => .stuck := rfl
theorem ev_fld (e : E) (f : Nat) : ev cx (.fld e f) ρ μ = (ev cx e ρ μ).bind fun d μ => fldD cx f d μ := rfl
theorem ev_lam (g : Nat) (e : E) : ev cx (.lam g e) ρ μ = cx.lf g μ.length (ev cx e ρ μ) := rfl
theorem ev_nw (e : E) : ev cx (.nw e) ρ μ = nwR true (ev cx e ρ μ) := rfl
theorem ev_frz (e : E) : ev cx (.frz e) ρ μ = (ev cx e ρ μ).bind frzD := rfl
/-- a turn of a comprehension -/
def turnC (cx : Cxt) (ow : List Nat) (elt : E) (g : G) (cs : List E) (ρ : Rho) (x : D) (μ : Mu) : R (Option D) := match tgt g x (wipeR ρ ow) μ with
  | some ρ1 => (evc cx cs ρ1 μ).bind fun k μ => match k with
    | true => (ev cx elt ρ1 μ).bind fun y μ => .ok (some y) μ
    | false => .ok none μ
  | none => .stuck
theorem ev_cmp (ow : List Nat) (elt : E) (g : G) (k : ItK) (es cs : List E) : ev cx (.cmp ow elt g k es cs) ρ μ = (evs cx es ρ μ).bind fun vs μ1 => match itD k vs μ1 with
    | some xs => if xs.length ≤ LN then (compL (still vs μ1) (turnC cx ow elt g cs ρ) xs [] μ1).bind fun ys μ => .ok (.lst ys) μ else .stuck
    | none => .stuck := rfl
/-- a turn of one whose element may raise -/
def turnR (cx : Cxt) (ow : List Nat) (elt : E) (g : G) (cs : List E) (ρ : Rho) (x : D) (μ : Mu) : R (Option D) := match tgt g x (wipeR ρ ow) μ with
  | some ρ1 => (evc cx cs ρ1 μ).calm.bind fun k μ => match k with
    | true => (ev cx elt ρ1 μ).bind fun y μ => .ok (some y) μ
    | false => .ok none μ
  | none => .stuck
theorem ev_cmpR (ow : List Nat) (elt : E) (g : G) (k : ItK) (es cs : List E) : ev cx (.cmpR ow elt g k es cs) ρ μ = (evs cx es ρ μ).bind fun vs μ1 => match itD k vs μ1 with
    | some xs => if xs.length ≤ LN then (compR (still vs μ1) (turnR cx ow elt g cs ρ) xs [] μ1).bind fun ys μ => .ok (.lst ys) μ else .stuck
    | none => .stuck := rfl
/-- a turn of the outer for -/
def turnO (cx : Cxt) (ow ow1 : List Nat) (elt : E) (g : G) (cs : List E) (g1 : G) (k1 : ItK) (es1 cs1 : List E) (ρ : Rho) (x : D) (acc : List D) (μ : Mu) : R (List D) := match tgt g x (wipeR ρ ow) μ with
  | some ρ1 => (evc cx cs ρ1 μ).bind fun b μ => match b with
    | true => (evs cx es1 ρ1 μ).bind fun vs1 μ2 => (match itD k1 vs1 μ2 with
      | some ys => if acc.length + ys.length ≤ LN then compL (still vs1 μ2) (turnC cx ow1 elt g1 cs1 ρ1) ys acc μ2 else .stuck
      | none => .stuck)
    | false => .ok acc μ
  | none => .stuck
theorem ev_cmp2 (ow ow1 : List Nat) (elt : E) (g : G) (k : ItK) (es cs : List E) (g1 : G) (k1 : ItK) (es1 cs1 : List E) : ev cx (.cmp2 ow ow1 elt g k es cs g1 k1 es1 cs1) ρ μ = (evs cx es ρ μ).bind fun vs μ1 => match itD k vs μ1 with
    | some xs => if xs.length ≤ LN then (compO (still vs μ1) (turnO cx ow ow1 elt g cs g1 k1 es1 cs1 ρ) xs [] μ1).bind fun ys μ => .ok (.lst ys) μ else .stuck
    | none => .stuck := rfl
theorem evs_nil : evs cx [] ρ μ = .ok [] μ := rfl
theorem evs_st (e : E) (r : List E) : evs cx (.st e :: r) ρ μ = (ev cx e ρ μ).bind fun d μ => starD d μ fun μ => evs cx r ρ μ := rfl
def E.isSt : E → Bool
  | .st _ => true
  | _ => false
theorem evs_cons {e : E} (h : e.isSt = false) (r : List E) : evs cx (e :: r) ρ μ = (ev cx e ρ μ).bind fun d μ => (evs cx r ρ μ).bind fun vs μ => .ok (d :: vs) μ := by
  cases e <;> first | rfl | cases h
theorem evc_nil : evc cx [] ρ μ = .ok true μ := rfl
theorem evc_cons (e : E) (r : List E) : evc cx (e :: r) ρ μ = (evb cx e ρ μ).bind fun k μ => match k with
    | true => evc cx r ρ μ
    | false => .ok false μ := rfl
theorem evb_and (a b : E) : evb cx (.and a b) ρ μ = (evb cx a ρ μ).bind fun k μ => match k with
    | true => evb cx b ρ μ
    | false => .ok false μ := by
  show toB ((evb cx a ρ μ).bind _) = _
  rw [toB_bindB]
  cases evb cx a ρ μ with
  | ok k μ => cases k <;> rfl
  | _ => rfl
theorem evb_or (a b : E) : evb cx (.or a b) ρ μ = (evb cx a ρ μ).bind fun k μ => match k with
    | true => .ok true μ
    | false => evb cx b ρ μ := by
  show toB ((evb cx a ρ μ).bind _) = _
  rw [toB_bindB]
  cases evb cx a ρ μ with
  | ok k μ => cases k <;> rfl
  | _ => rfl
theorem evb_ife (c a b : E) : evb cx (.ife c a b) ρ μ = (evb cx c ρ μ).bind fun k μ => match k with
    | true => evb cx a ρ μ
    | false => evb cx b ρ μ := by
  show toB ((evb cx c ρ μ).bind _) = _
  rw [toB_bindB]
  cases evb cx c ρ μ with
  | ok k μ => cases k <;> rfl
  | _ => rfl
theorem evb_not (a : E) : evb cx (.op .not [a]) ρ μ = (evb cx a ρ μ).bind fun k μ => .ok (!k) μ := by
  show toB ((evb cx a ρ μ).bind _) = _
  rw [toB_bindB]
  rfl
/-- a test that is told by a value -/
def E.plain : E → Bool
  | .and _ _ | .or _ _ | .ife _ _ _ | .st _ => false
  | .op o _ => decide (o ≠ .not)
  | _ => true
theorem evb_plain {e : E} (h : e.plain = true) : evb cx e ρ μ = (ev cx e ρ μ).bind fun d μ => trD cx d μ := by
  cases e with
  | op o es =>
    have h' : o ≠ .not := of_decide_eq_true h
    rw [ev_op h']
    cases o <;> first | exact toB_fin _ | exact absurd rfl h'
  | and a b => cases h
  | or a b => cases h
  | ife a b c => cases h
  | st a => cases h
  | _ => exact toB_fin _
end
/-- how often a while may turn -/
def WF : Nat := 1000000
/-- an error of the program: its fields -/
def raiD (cx : Cxt) (c : Nat) (vs : List D) (μ : Mu) : R F := match cx.T.cl c with
  | some i => if i.kind = 2 ∧ vs.length = i.flds.length ∧ (vs.any D.isCell) = false then .exc c i.flds.reverse vs.reverse μ else .stuck
  | none => .stuck
/-- x[y] = d, x a list that changes -/
def setL (x y d : D) (μ : Mu) : Option Mu := if d.isCell then none else match x with
  | .cell n => (match μ[n]? with
    | some (.lst xs) => (match y with
      | .int i => (match ixOf xs.length i with
        | some j => some (μ.set n (.lst (xs.set j d)))
        | none => none)
      | _ => none)
    | some (.dct ks xs) => (match keyOf y with
      | some k => if ks.length < LN then some (μ.set n (.dct (dputK ks k) (dput ks xs k d))) else none
      | none => none)
    | _ => none)
  | _ => none
section
variable (cx : Cxt)
mutual
def ex : S → Rho → Mu → R F
  | .set i e, ρ, μ => (ev cx e ρ μ).bind fun d μ => .ok (.nx (ρ.set i (some d))) μ
  | .new i e, ρ, μ => (nwR true (ev cx e ρ μ)).bind fun d μ => .ok (.nx (ρ.set i (some d))) μ
  | .unp is e, ρ, μ => (ev cx e ρ μ).bind fun d μ => match tgt (.tp is) d ρ μ with
    | some ρ' => .ok (.nx ρ') μ
    | none => .stuck
  | .par is es, ρ, μ => (evs cx es ρ μ).bind fun vs μ => if vs.length = is.length then .ok (.nx ((is.zip vs).foldl (fun ρ p => ρ.set p.1 (some p.2)) ρ)) μ else .stuck
  | .sti o i e, ρ, μ => (ev cx e ρ μ).bind fun d μ => (ev cx o ρ μ).bind fun x μ => (ev cx i ρ μ).bind fun y μ => match setL x y d μ with
    | some μ' => .ok (.nx ρ) μ'
    | none => .stuck
  | .stf o f e, ρ, μ => (ev cx e ρ μ).bind fun d μ => (ev cx o ρ μ).bind fun x μ => match x with
    | .cell n => (match μ[n]? with
      | some (.ins c ns vs) => if d.isCell then .stuck else if ns.length < 900 ∧ hasF cx false c f = true then .ok (.nx ρ) (μ.set n (.ins c (put ns vs f d).1 (put ns vs f d).2)) else .stuck
      | _ => .stuck)
    | _ => .stuck
  | .ex e, ρ, μ => (ev cx e ρ μ).bind fun _ μ => .ok (.nx ρ) μ
  | .ret e, ρ, μ => (ev cx e ρ μ).bind fun d μ => .ok (.ret d) μ
  | .ret0, _, μ => .ok (.ret .non) μ
  | .retn e, ρ, μ => (nwR true (ev cx e ρ μ)).bind fun d μ => .ok (.ret d) μ
  | .ife c a b, ρ, μ => (evb cx c ρ μ).bind fun k μ => match k with
    | true => exs a ρ μ
    | false => exs b ρ μ
  | .for g k es b, ρ, μ => (evs cx es ρ μ).bind fun vs μ1 => match itD k vs μ1 with
    | some xs => forL (still vs μ1) g (fun ρ μ => exs b ρ μ) xs ρ μ1
    | none => .stuck
  | .whl c b, ρ, μ => whlL (fun ρ μ => evb cx c ρ μ) (fun ρ μ => exs b ρ μ) WF ρ μ
  | .brk, ρ, μ => .ok (.brk ρ) μ
  | .cont, ρ, μ => .ok (.cont ρ) μ
  | .pass, ρ, μ => .ok (.nx ρ) μ
  | .rai c es, ρ, μ => (evs cx es ρ μ).bind fun vs μ => raiD cx c vs μ
  | .aug i o e, ρ, μ => match ρ[i]? with
    | some (some (.int x)) => (ev cx e ρ μ).bind fun y μ => match y with
      | .int y => (opD cx o [.int x, .int y] μ).bind fun z μ => .ok (.nx (ρ.set i (some z))) μ
      | _ => .stuck
    | _ => .stuck
def exs : List S → Rho → Mu → R F
  | [], ρ, μ => .ok (.nx ρ) μ
  | s :: r, ρ, μ => (ex s ρ μ).bind fun f μ => match f with
    | .nx ρ' => exs r ρ' μ
    | .ret d => .ok (.ret d) μ
    | .brk ρ' => .ok (.brk ρ') μ
    | .cont ρ' => .ok (.cont ρ') μ
end
end
/-- what is handed back: a thing that changes, made within, stays one only where this is told -/
def leave (keep : Bool) (n : Nat) (v : D) (μ : Mu) : R D := match v with
  | .cell m => if m < n then .ok (.cell m) (μ.take n) else (match μ[m]? with
    | some (.lst xs) => if keep then .ok (.cell n) (μ.take n ++ [.lst xs]) else if xs.length ≤ LN then .ok (.lst xs) (μ.take n) else .stuck
    | some (.ins c ns vs) => .ok (.cell n) (μ.take n ++ [.ins c ns vs])
    | some (.dct ks vs) => .ok (.dct ks vs) (μ.take n)
    | _ => .stuck)
  | v => .ok v (μ.take n)
def startR (d : Def) (args : List D) : Rho := args.map some ++ List.replicate (d.nl - d.np) none
def makeC (T : Tab) (cf : Nat → List D → Mu → R D) (c : Nat) (args : List D) (μ : Mu) : R D := match T.cl c with
  | some k => (match k.init with
    | some f => (cf f (.cell μ.length :: args) (μ ++ [.ins c [] []])).bind fun r μ' => match r, μ'[μ.length]? with
      | .non, some (.ins c' ns vs) => (match k.kind with
        | 0 => .ok (.obj c' ns vs) (μ'.take μ.length)
        | 1 => .ok (.cell μ.length) μ'
        | _ => .ok (.exn c' ns vs) (μ'.take μ.length))
      | _, _ => .stuck
    | none => .stuck)
  | none => .stuck
def finish (d : Def) (n : Nat) : R F → R D
  | .ok (.ret v) μ' => leave d.keep n v μ'
  | .ok (.nx _) μ' => leave d.keep n .non μ'
  | .ok _ _ => .stuck
  | .exc c ns vs μ' => .exc c ns vs (μ'.take n)
  | .stuck => .stuck
def runD (cx : Cxt) (f : Nat) (args : List D) (μ : Mu) : R D := match cx.T.fn f with
  | some d => if args.length = d.np then finish d μ.length (exs cx d.body (startR d args) μ) else .stuck
  | none => .stuck
/-- is the error's class below the class that the clause names -/
def subC (T : Tab) (c t : Nat) : Option Bool := match T.cl c, T.cl t with
  | some i, some j => if i.kind = 2 ∧ 2 ≤ j.kind then some (decide (t ∈ i.mro)) else none
  | _, _ => none
def startC (t : Ctc) (d : D) : Rho := (List.replicate t.d.nl none).set t.i (some d)
def runC (cx : Cxt) (g n : Nat) (r : R D) : R D := match cx.T.ct g with
  | some t => (match r with
    | .ok _ μ => finish t.d n (exs cx t.d.body (startC t .non) μ)
    | .exc c ns vs μ => (match subC cx.T c t.c with
      | some true => finish t.d n (exs cx t.d.body (startC t (.exn c ns vs)) μ)
      | some false => .exc c ns vs (μ.take n)
      | none => .stuck)
    | .stuck => .stuck)
  | none => .stuck
def lev (T : Tab) : Nat → Cxt
  | 0 => ⟨T, fun _ _ _ => .stuck, fun _ _ _ => .stuck, fun _ _ _ => .stuck⟩
  | n + 1 => ⟨T, runD (lev T n), makeC T (lev T n).cf, runC (lev T n)⟩
/-- a def called, n levels deep at most -/
def callF (T : Tab) (n : Nat) : Nat → List D → Mu → R D := (lev T n).cf
theorem callF_succ (T : Tab) (n : Nat) : callF T (n + 1) = runD (lev T n) := rfl
theorem lev_T (T : Tab) : ∀ n, (lev T n).T = T
  | 0 => rfl
  | _ + 1 => rfl
theorem lev_cf (T : Tab) (n : Nat) : (lev T n).cf = callF T n := rfl
theorem lev_mk (T : Tab) (n : Nat) : (lev T (n + 1)).mkc = makeC T (callF T n) := rfl

/-! a try: patterned(row) -/
def dPat : Def := ⟨1, 4, false, [.new 1 (.lst []), .for (.nm 2) .seq [.v 0] [.ife (.op .nin [.v 2, .v 1]) [.ex (.op .app [.v 1, .v 2])] []],
  .ret (.op .totup [.cmp [3] (.op .index [.v 1, .v 3]) (.nm 3) .seq [.v 0] []])]⟩
def T0 : Tab := ⟨fun n => if n = 5 then some dPat else none, fun _ => none, fun _ => none⟩
example : callF T0 3 5 [.tup [.int 7, .int 3, .int 7]] [] = .ok (.tup [.int 0, .int 1, .int 0]) [] := by kernel_rfl
end KP
end

section
set_option maxRecDepth 100000
set_option maxHeartbeats 4000000
/-! KPM: zip of a list and a tuple. -/
namespace KP
open PySem PySem.Spec PyProof.Rows L2
open PySem.Sem (wp)
/-- a walker of the class c over what stands at l, the k-th comes next -/
def WkAt (c : String) (h : Heap) (a l : Addr) (k : Nat) : Prop := ∃ u, h.get? a = some u ∧ u.cls = .type c ∧ u.data = .fields #[.ref l, .int k 0]
/-- a sequence of the class d -/
def SqAt (d : String) (h : Heap) (a : Addr) (xs : Array Value) : Prop := ∃ u, h.get? a = some u ∧ u.cls = .type d ∧ ∃ n, u.data = .seq xs n
theorem WkAt.to {c : String} {h g : Heap} {a l : Addr} {k : Nat} (x : WkAt c h a l k) (e : ∀ u, h.get? a = some u → g.get? a = some u) : WkAt c g a l k := by
  obtain ⟨u, hu, r⟩ := x
  exact ⟨u, e u hu, r⟩
theorem SqAt.to {d : String} {h g : Heap} {a : Addr} {xs : Array Value} (x : SqAt d h a xs) (e : ∀ u, h.get? a = some u → g.get? a = some u) : SqAt d g a xs := by
  obtain ⟨u, hu, r⟩ := x
  exact ⟨u, e u hu, r⟩
theorem WkAt.lt {c : String} {h : Heap} {a l : Addr} {k : Nat} (x : WkAt c h a l k) : a < h.objs.size := by
  obtain ⟨u, hu, _⟩ := x
  exact Heap.lt_size hu
/-- how such a walker hands out -/
structure Nx (c d : String) : Prop where
  item : ∀ {P : Program} {w : World} {A : Around} {E : Value → Shared → Prop} {s : Shared} {a l : Addr} {k : Nat} {xs : Array Value} {x : Value} {Q : Value → Shared → Prop}, WkAt c s.heap a l k → SqAt d s.heap l xs → xs[k]? = some x →
    (∀ g, WkAt c g a l (k + 1) → Heap.SameBut a s.heap g → Q x { s with heap := g }) → wpAny (model P w) A (Builtin.SmallTypes.nextOf (.ref a)) Q E s
  stop : ∀ {P : Program} {w : World} {A : Around} {E : Value → Shared → Prop} {s : Shared} {a l : Addr} {k : Nat} {xs : Array Value} {Q : Value → Shared → Prop}, A.handled = none → WkAt c s.heap a l k → SqAt d s.heap l xs → xs[k]? = none →
    (∀ g e, Heap.ExtBut a s.heap g → (∃ u, g.get? e = some u ∧ u.cls = .type "StopIteration") → E (.ref e) { s with heap := g }) → wpAny (model P w) A (Builtin.SmallTypes.nextOf (.ref a)) Q E s
theorem nxL : Nx "list_iterator" "list" := ⟨fun h1 h2 h3 h4 => wpAny_nextOf_list_item h1 h2 h3 h4, fun h0 h1 h2 h3 h4 => wpAny_nextOf_list_end h0 h1 h2 h3 h4⟩
theorem nxT : Nx "tuple_iterator" "tuple" := ⟨fun h1 h2 h3 h4 => RZ.nextOf_tuple_item h1 h2 h3 h4, fun h0 h1 h2 h3 h4 => RZ.nextOf_tuple_end h0 h1 h2 h3 h4⟩
section
variable {P : Program} {w : World} {A : Around} {E : Value → Shared → Prop} {s : Shared} {c1 d1 c2 d2 : String} {z t o i j p q : Addr} {k m : Nat} {xs ys : Array Value}
theorem mz_item {x y a b : Value} {Q : Value → Shared → Prop} (N1 : Nx c1 d1) (N2 : Nx c2 d2) (D : ZipApart z t o i j p q) (hz : IsZip s.heap z t o .none) (ht : IsPair s.heap t (.ref i) (.ref j)) (ho : IsPair s.heap o a b)
    (w1 : WkAt c1 s.heap i p k) (w2 : WkAt c2 s.heap j q m) (q1 : SqAt d1 s.heap p xs) (q2 : SqAt d2 s.heap q ys) (x1 : xs[k]? = some x) (x2 : ys[m]? = some y)
    (R : ∀ g, IsZip g z t o (rawInt s.heap.objs.size) → IsPair g o x y → WkAt c1 g i p (k + 1) → WkAt c2 g j q (m + 1) → IsPair g s.heap.objs.size x y → g.objs.size = s.heap.objs.size + 1 →
      (∀ v u, v ≠ z → v ≠ o → v ≠ i → v ≠ j → s.heap.get? v = some u → g.get? v = some u) → Q (.ref s.heap.objs.size) { s with heap := g }) :
    wpAny (model P w) A (Builtin.«zip.__next__» ⟨[.ref z], []⟩) (fun f s' => ∃ v, f = .done (.ret v) ∧ Q v s') E s := by
  show wpAny _ _ (field (.ref z) 2 >>= _) _ _ s
  refine wpAny_bind (wpAny_field hz rfl (x := .bool false) rfl ?_); show wpAny _ _ (field (.ref z) 3 >>= _) _ _ s
  refine wpAny_bind (wpAny_field hz rfl (x := .ref t) rfl (wpAny_bind (wpAny_seqItems ht rfl ?_)))
  show wpAny _ _ (Builtin.SmallTypes.ownedTupleIsFree (.ref z) >>= _) _ _ s
  refine wpAny_bind ?_; unfold Builtin.SmallTypes.ownedTupleIsFree
  refine wpAny_bind (wpAny_field hz rfl (x := .none) rfl (wpAny_pure ?_)); simp only [if_true]
  refine wpAny_bind (wpAny_rule (wpAny_bind (wpAny_field hz rfl (x := .ref o) rfl (wpAny_bind (wpAny_setField_rec hz (by simp) fun g1 z1 b1 => ?_)))))
  replace z1 : IsZip g1 z t o .ellipsis := z1
  refine wpAny_bind ?_; simp only [List.zipIdx_cons, List.zipIdx_nil, List.forIn_cons, List.forIn_nil]
  refine wpAny_bind (wpAny_bind (wpAny_onRaise ?_)); show wpAny _ _ (Builtin.SmallTypes.nextOf (.ref i) >>= _) _ _ _
  refine wpAny_bind (N1.item (w1.to fun u e => b1.extBut _ _ D.i1z e) (q1.to fun u e => b1.extBut _ _ D.l1z e) x1 fun g2 v2 b2 => wpAny_pure ?_)
  have o2 : IsPair g2 o a b := b2.extBut _ _ D.TOi1 (b1.extBut _ _ D.TOz ho)
  refine wpAny_bind (wpAny_seqItems o2 rfl (wpAny_bind (wpAny_updateSeq_pair o2 fun g3 o3 b3 => ?_)))
  replace o3 : IsPair g3 o x b := o3
  refine wpAny_bind (wpAny_letGo (wpAny_pure ?_)); refine wpAny_bind (wpAny_bind (wpAny_onRaise ?_))
  show wpAny _ _ (Builtin.SmallTypes.nextOf (.ref j) >>= _) _ _ _
  refine wpAny_bind (N2.item (w2.to fun u e => b3.extBut _ _ D.TOi2.symm (b2.extBut _ _ D.i12.symm (b1.extBut _ _ D.i2z e))) (q2.to fun u e => b3.extBut _ _ D.l2TO (b2.extBut _ _ D.l2i1 (b1.extBut _ _ D.l2z e))) x2 fun g4 v4 b4 => wpAny_pure ?_)
  have o4 : IsPair g4 o x b := b4.extBut _ _ D.TOi2 o3
  refine wpAny_bind (wpAny_seqItems o4 rfl (wpAny_bind (wpAny_updateSeq_pair o4 fun g5 o5 b5 => ?_)))
  replace o5 : IsPair g5 o x y := o5
  refine wpAny_bind (wpAny_letGo (wpAny_pure (wpAny_pure ?_))); refine wpAny_bind (wpAny_seqItems o5 rfl (wpAny_bind (wpAny_newTuple ?_)))
  have sz : g5.objs.size = s.heap.objs.size := by rw [b5.1, b4.1, b3.1, b2.1, b1.1]
  have all : ∀ v u, v ≠ z → v ≠ o → v ≠ i → v ≠ j → s.heap.get? v = some u → g5.get? v = some u := fun v u n1 n2 n3 n4 e => b5.extBut _ _ n2 (b4.extBut _ _ n4 (b3.extBut _ _ n2 (b2.extBut _ _ n3 (b1.extBut _ _ n1 e))))
  have z5 : IsZip g5 z t o .ellipsis := b5.extBut _ _ D.TOz.symm (b4.extBut _ _ D.i2z.symm (b3.extBut _ _ D.TOz.symm (b2.extBut _ _ D.i1z.symm z1)))
  have v5 : WkAt c1 g5 i p (k + 1) := v2.to fun u e => b5.extBut _ _ D.TOi1.symm (b4.extBut _ _ D.i12 (b3.extBut _ _ D.TOi1.symm e))
  have u5 : WkAt c2 g5 j q (m + 1) := v4.to fun u e => b5.extBut _ _ D.TOi2.symm e
  have zl : z < g5.objs.size := Heap.lt_size z5
  show wpAny _ _ (Builtin.SmallTypes.ownedTupleHandOut (.ref z) (.ref g5.objs.size) >>= _) _ _ _
  refine wpAny_bind ?_; unfold Builtin.SmallTypes.ownedTupleHandOut
  have z6 : IsZip (g5.push { cls := .type "tuple", data := .seq #[x, y] }) z t o .ellipsis := Heap.get?_push_of_some _ z5
  refine wpAny_bind (wpAny_setField_rec z6 (by simp) fun g7 z7 b7 => ?_)
  replace z7 : IsZip g7 z t o (rawInt g5.objs.size) := z7
  refine wpAny_setField_rec z7 (by simp) fun g8 z8 b8 => ?_
  replace z8 : IsZip g8 z t o (rawInt g5.objs.size) := z8
  have up : ∀ v u, v ≠ z → g5.get? v = some u → g8.get? v = some u := fun v u n e => b8.extBut _ _ n (b7.extBut _ _ n (Heap.get?_push_of_some _ e))
  have t8 : IsPair g8 g5.objs.size x y := b8.extBut _ _ (Nat.ne_of_gt zl) (b7.extBut _ _ (Nat.ne_of_gt zl) (Heap.get?_push_size _ rfl))
  have s8 : g8.objs.size = g5.objs.size + 1 := by rw [b8.1, b7.1, Heap.size_push]
  rw [sz] at z8 t8 s8
  refine wpAny_pure ⟨_, rfl, ?_⟩
  show Q (.ref g5.objs.size) _
  rw [sz]
  exact R g8 z8 (up _ _ D.TOz o5) (v5.to fun u e => up _ u D.i1z e) (u5.to fun u e => up _ u D.i2z e) t8 s8 fun v u n1 n2 n3 n4 e => up v u n1 (all v u n1 n2 n3 n4 e)
theorem mz_stop {a b : Value} {Q : Fin → Shared → Prop} (N1 : Nx c1 d1) (N2 : Nx c2 d2) (hh : A.handled = none) (D : ZipApart z t o i j p q) (hz : IsZip s.heap z t o .none) (ht : IsPair s.heap t (.ref i) (.ref j)) (ho : IsPair s.heap o a b)
    (w1 : WkAt c1 s.heap i p k) (w2 : WkAt c2 s.heap j q m) (q1 : SqAt d1 s.heap p xs) (q2 : SqAt d2 s.heap q ys) (he : xs[k]? = none ∨ ys[m]? = none)
    (R : ∀ g e, (∀ v u, v ≠ z → v ≠ o → v ≠ i → v ≠ j → s.heap.get? v = some u → g.get? v = some u) → (∃ u, g.get? e = some u ∧ u.cls = .type "StopIteration") → E (.ref e) { s with heap := g }) :
    wpAny (model P w) A (Builtin.«zip.__next__» ⟨[.ref z], []⟩) Q E s := by
  show wpAny _ _ (field (.ref z) 2 >>= _) _ _ s
  refine wpAny_bind (wpAny_field hz rfl (x := .bool false) rfl ?_); show wpAny _ _ (field (.ref z) 3 >>= _) _ _ s
  refine wpAny_bind (wpAny_field hz rfl (x := .ref t) rfl (wpAny_bind (wpAny_seqItems ht rfl ?_)))
  show wpAny _ _ (Builtin.SmallTypes.ownedTupleIsFree (.ref z) >>= _) _ _ s
  refine wpAny_bind ?_; unfold Builtin.SmallTypes.ownedTupleIsFree
  refine wpAny_bind (wpAny_field hz rfl (x := .none) rfl (wpAny_pure ?_)); simp only [if_true]
  refine wpAny_bind (wpAny_rule (wpAny_bind (wpAny_field hz rfl (x := .ref o) rfl (wpAny_bind (wpAny_setField_rec hz (by simp) fun g1 z1 b1 => ?_)))))
  replace z1 : IsZip g1 z t o .ellipsis := z1
  refine wpAny_bind ?_; simp only [List.zipIdx_cons, List.zipIdx_nil, List.forIn_cons, List.forIn_nil]
  refine wpAny_bind (wpAny_bind (wpAny_onRaise ?_)); show wpAny _ _ (Builtin.SmallTypes.nextOf (.ref i) >>= _) _ _ _
  cases x1 : xs[k]? with
  | none =>
    refine wpAny_bind (N1.stop hh (w1.to fun u e => b1.extBut _ _ D.i1z e) (q1.to fun u e => b1.extBut _ _ D.l1z e) x1 fun g2 e b2 he => ?_)
    obtain ⟨u, hu, cu⟩ := he
    have z2 : IsZip g2 z t o .ellipsis := b2 _ _ D.i1z.symm z1
    have ne : e ≠ z := by
      rintro rfl
      rw [z2] at hu
      cases hu
      simp at cu
    exact wpAny_setField_rec z2 (by simp) fun g3 _ b3 => R g3 e (fun v u n1 _ n3 _ x => b3.extBut _ _ n1 (b2 _ _ n3 (b1.extBut _ _ n1 x))) ⟨u, b3.extBut _ _ ne hu, cu⟩
  | some x =>
    have x2 : ys[m]? = none := by
      rcases he with h | h
      · rw [x1] at h; cases h
      · exact h
    refine wpAny_bind (N1.item (w1.to fun u e => b1.extBut _ _ D.i1z e) (q1.to fun u e => b1.extBut _ _ D.l1z e) x1 fun g2 v2 b2 => wpAny_pure ?_)
    have o2 : IsPair g2 o a b := b2.extBut _ _ D.TOi1 (b1.extBut _ _ D.TOz ho)
    refine wpAny_bind (wpAny_seqItems o2 rfl (wpAny_bind (wpAny_updateSeq_pair o2 fun g3 o3 b3 => ?_)))
    refine wpAny_bind (wpAny_letGo (wpAny_pure ?_)); refine wpAny_bind (wpAny_bind (wpAny_onRaise ?_))
    show wpAny _ _ (Builtin.SmallTypes.nextOf (.ref j) >>= _) _ _ _
    refine wpAny_bind (N2.stop hh (w2.to fun u e => b3.extBut _ _ D.TOi2.symm (b2.extBut _ _ D.i12.symm (b1.extBut _ _ D.i2z e))) (q2.to fun u e => b3.extBut _ _ D.l2TO (b2.extBut _ _ D.l2i1 (b1.extBut _ _ D.l2z e))) x2 fun g4 e b4 he => ?_)
    obtain ⟨u, hu, cu⟩ := he
    have z4 : IsZip g4 z t o .ellipsis := b4 _ _ D.i2z.symm (b3.extBut _ _ D.TOz.symm (b2.extBut _ _ D.i1z.symm z1))
    have ne : e ≠ z := by
      rintro rfl
      rw [z4] at hu
      cases hu
      simp at cu
    exact wpAny_setField_rec z4 (by simp) fun g5 _ b5 => R g5 e (fun v u n1 n2 n3 n4 x => b5.extBut _ _ n1 (b4 _ _ n4 (b3.extBut _ _ n2 (b2.extBut _ _ n3 (b1.extBut _ _ n1 x))))) ⟨u, b5.extBut _ _ ne hu, cu⟩
theorem mzn_item {x y a b : Value} {Q : Option Value → Shared → Prop} (N1 : Nx c1 d1) (N2 : Nx c2 d2) (D : ZipApart z t o i j p q) (hz : IsZip s.heap z t o .none) (ht : IsPair s.heap t (.ref i) (.ref j)) (ho : IsPair s.heap o a b)
    (w1 : WkAt c1 s.heap i p k) (w2 : WkAt c2 s.heap j q m) (q1 : SqAt d1 s.heap p xs) (q2 : SqAt d2 s.heap q ys) (x1 : xs[k]? = some x) (x2 : ys[m]? = some y)
    (R : ∀ g, IsZip g z t o (rawInt s.heap.objs.size) → IsPair g o x y → WkAt c1 g i p (k + 1) → WkAt c2 g j q (m + 1) → IsPair g s.heap.objs.size x y → g.objs.size = s.heap.objs.size + 1 →
      (∀ v u, v ≠ z → v ≠ o → v ≠ i → v ≠ j → s.heap.get? v = some u → g.get? v = some u) → Q (some (.ref s.heap.objs.size)) { s with heap := g }) :
    wpAny (model P w) A (pyNext (.ref z)) Q E s := by
  have T : s.TypeIs (.ref z) "zip" := ⟨_, hz, rfl⟩
  unfold pyNext
  exact wpAny_bind (wpAny_attempt (wpAny_callSpecial?_slot (name := Str.ofString "__next__") T F.slot_zip_next (wpAny_call_entry F.slot_zip_next T F.entry_zip_next
    (mz_item N1 N2 D hz ht ho w1 w2 q1 q2 x1 x2 fun g r1 r2 r3 r4 r5 r6 r7 => wpAny_pure (R g r1 r2 r3 r4 r5 r6 r7)) (F.args_zip_next_1 _))))
theorem mzn_stop {a b : Value} {Q : Option Value → Shared → Prop} (N1 : Nx c1 d1) (N2 : Nx c2 d2) (hh : A.handled = none) (D : ZipApart z t o i j p q) (hz : IsZip s.heap z t o .none) (ht : IsPair s.heap t (.ref i) (.ref j)) (ho : IsPair s.heap o a b)
    (w1 : WkAt c1 s.heap i p k) (w2 : WkAt c2 s.heap j q m) (q1 : SqAt d1 s.heap p xs) (q2 : SqAt d2 s.heap q ys) (he : xs[k]? = none ∨ ys[m]? = none)
    (R : ∀ g, (∀ v u, v ≠ z → v ≠ o → v ≠ i → v ≠ j → s.heap.get? v = some u → g.get? v = some u) → Q none { s with heap := g }) : wpAny (model P w) A (pyNext (.ref z)) Q E s := by
  have T : s.TypeIs (.ref z) "zip" := ⟨_, hz, rfl⟩
  unfold pyNext
  refine wpAny_bind (wpAny_attempt (wpAny_callSpecial?_slot (name := Str.ofString "__next__") T F.slot_zip_next (wpAny_call_entry F.slot_zip_next T F.entry_zip_next
    (mz_stop N1 N2 hh D hz ht ho w1 w2 q1 q2 he fun g e f he => ?_) (F.args_zip_next_1 _))))
  obtain ⟨u, hu, cu⟩ := he
  exact wpAny_bind (wpAny_isInstance (T := "StopIteration") (b := true) ⟨u, hu, cu⟩ isSubtype_stop (wpAny_pure (R _ f)))
end
/-! zip(list, tuple): what is made -/
abbrev mzH1 (h : Heap) (p : Addr) : Heap := h.push { cls := .type "list_iterator", data := .fields #[.ref p, .int 0 0] }
abbrev mzH2 (h : Heap) (p q : Addr) : Heap := (mzH1 h p).push { cls := .type "tuple_iterator", data := .fields #[.ref q, .int 0 0] }
abbrev mzH3 (h : Heap) (p q : Addr) : Heap := (mzH2 h p q).push { cls := .type "tuple", data := .seq #[.ref h.objs.size, .ref (mzH1 h p).objs.size] }
abbrev mzH4 (h : Heap) (p q : Addr) : Heap := (mzH3 h p q).push { cls := .type "tuple", data := .seq #[.none, .none] }
abbrev mzH5 (h : Heap) (p q : Addr) : Heap := (mzH4 h p q).push { cls := .type "zip", data := .fields #[.none, .bool false, .bool false, .ref (mzH2 h p q).objs.size, .ref (mzH3 h p q).objs.size] }
theorem mz_new (p q : Addr) (xs ys : Array Value) : Meets (Builtin.«zip.__new__» ⟨[.type "zip", .ref p, .ref q], []⟩) (fun _ R s => s.heap.IsList p xs ∧ s.heap.IsTuple q ys ∧
      R (.ok (.ret (.ref (mzH4 s.heap p q).objs.size))) { s with heap := mzH5 s.heap p q }) :=
  .of_wp fun prog w A R s h => by
    obtain ⟨hp, g, d, tk, os⟩ := s
    obtain ⟨a1, a2, h⟩ := h
    have sb := sub_zip
    have b1 : Heap.IsList (Shared.heap ⟨hp, g, d, tk, os⟩) p xs := a1
    have b2 : Heap.IsTuple (Shared.heap ⟨hp.push { cls := .type "list_iterator", data := .fields #[.ref p, .int 0 0] }, g, d, tk, os⟩) q ys := Heap.IsTuple.push a2 _
    wp_walk using wpAny_pyIter_list b1, wpAny_pyIter_tuple b2
    exact ⟨_, rfl, h⟩
theorem mz_call {P : Program} {w : World} {A : Around} {E : Value → Shared → Prop} {s : Shared} {p q : Addr} {xs ys : Array Value} {Q : Value → Shared → Prop} (a1 : s.heap.IsList p xs) (a2 : s.heap.IsTuple q ys)
    (R : ∀ g, IsZip g (s.heap.objs.size + 4) (s.heap.objs.size + 2) (s.heap.objs.size + 3) .none → IsPair g (s.heap.objs.size + 2) (.ref s.heap.objs.size) (.ref (s.heap.objs.size + 1)) → IsPair g (s.heap.objs.size + 3) .none .none →
      WkAt "list_iterator" g s.heap.objs.size p 0 → WkAt "tuple_iterator" g (s.heap.objs.size + 1) q 0 → (∀ v u, s.heap.get? v = some u → g.get? v = some u) → Q (.ref (s.heap.objs.size + 4)) { s with heap := g }) :
    wpAny (model P w) A (call (.type "zip") [.ref p, .ref q]) Q E s := by
  refine callType_new F.called_zip (by decide) (F.typeCall_zip_2 _ _) (F.newCall_zip_2 _ _) (fun u => F.args_object_init_3 u _ _) F.entry_zip_new (mz_new p q xs ys) ⟨a1, a2, ?_⟩
  have n1 : (mzH1 s.heap p).objs.size = s.heap.objs.size + 1 := Heap.size_push ..
  have n2 : (mzH2 s.heap p q).objs.size = s.heap.objs.size + 2 := by rw [Heap.size_push, n1]
  have n3 : (mzH3 s.heap p q).objs.size = s.heap.objs.size + 3 := by rw [Heap.size_push, n2]
  have n4 : (mzH4 s.heap p q).objs.size = s.heap.objs.size + 4 := by rw [Heap.size_push, n3]
  have f5 : (mzH5 s.heap p q).get? (mzH4 s.heap p q).objs.size = some _ := Heap.get?_push_size _ rfl
  have f4 : (mzH5 s.heap p q).get? (mzH3 s.heap p q).objs.size = some _ := Heap.get?_push_of_some _ (Heap.get?_push_size _ rfl)
  have f3 : (mzH5 s.heap p q).get? (mzH2 s.heap p q).objs.size = some _ := Heap.get?_push_of_some _ (Heap.get?_push_of_some _ (Heap.get?_push_size _ rfl))
  have f2 : (mzH5 s.heap p q).get? (mzH1 s.heap p).objs.size = some _ := Heap.get?_push_of_some _ (Heap.get?_push_of_some _ (Heap.get?_push_of_some _ (Heap.get?_push_size _ rfl)))
  have f1 : (mzH5 s.heap p q).get? s.heap.objs.size = some _ := Heap.get?_push_of_some _ (Heap.get?_push_of_some _ (Heap.get?_push_of_some _ (Heap.get?_push_of_some _ (Heap.get?_push_size _ rfl))))
  show _ ∧ _
  rw [n2, n3, n4] at f5
  rw [n1, n2] at f3
  rw [n3] at f4
  rw [n1] at f2
  rw [n4]
  exact ⟨⟨_, f5, rfl⟩, R _ f5 f3 f4 ⟨_, f1, rfl, rfl⟩ ⟨_, f2, rfl, rfl⟩ fun v u e => Heap.get?_push_of_some _ (Heap.get?_push_of_some _ (Heap.get?_push_of_some _ (Heap.get?_push_of_some _ (Heap.get?_push_of_some _ e))))⟩
theorem five {c z t o i j : Addr} (h : c ∈ [z, t, o, i, j]) : c = z ∨ c = t ∨ c = o ∨ c = i ∨ c = j := by simpa using h
theorem five_not {c z t o i j : Addr} (h : c ∉ [z, t, o, i, j]) : c ≠ z ∧ c ≠ t ∧ c ≠ o ∧ c ≠ i ∧ c ≠ j := by simpa using h
end KP
end

section
set_option maxRecDepth 100000
set_option maxHeartbeats 4000000
/-! KPN: tuples that are known to have no dict of their own: made by a display, +, a slice, tuple(..), zip, enumerate. -/
namespace KP
open PySem PySem.Spec PyProof.Rows L2
/-- a tuple's object, without a dict -/
def TO (o : Obj) : Prop := o.cls = .type "tuple" ∧ o.dict = none
/-- it is known what stands there -/
def Pl (K : PySem.W.Frag) (Φ : Hp) (a : Addr) : Prop := (∃ o u, Φ a = some (.frz o u) ∧ TO o) ∨ ∃ o, K.lookup a = some o ∧ TO o
section
variable {X : Cx}
theorem newP {pins : List (Addr × Obj)} {σ : L2.St} {H : Hp} {s : Shared} {t' : Nat} {xs : List V} {us : List Value} {Q : VK} (I : Inv X pins σ H s) (r : Vals xs us) (hz : xs.length ≤ sizeLine) (q : ∀ p o, TO o → H p = none → Q (.ref p) (upd H p (.frz o (.tup xs)))) :
    EP X pins σ Q (.ref s.heap.objs.size) { s with heap := s.heap.push { cls := .type "tuple", data := .seq us.toArray }, toks := t' } := by
  have hf := I.hok.fresh (Nat.le_refl s.heap.objs.size)
  refine ⟨.ref s.heap.objs.size, _, I.laid (t' := t') (o := .frz { cls := .type "tuple", data := .seq us.toArray } (.tup xs)) (fun b u e => Heap.get?_push_of_some _ e) (Nat.le_refl _) ?_, rfl, q _ _ ⟨rfl, rfl⟩ hf⟩
  exact ⟨Heap.get?_push_size _ rfl, hz, us, r, IsTup.new _ _⟩
/-- (a, b, ..) -/
theorem pe_tupP {es : List Expr} {t : TA} {k : Nat} {pos : Pos} (h : PA X es t) : PE X (.Tuple es k pos) (fun σ H Q => t σ H fun xs H1 => xs.length ≤ sizeLine ∧ ∀ p o, TO o → H1 p = none → Q (.ref p) (upd H1 p (.frz o (.tup xs)))) :=
  ⟨fun pins s σ H Q I hq => wpAny_Tuple_spliced (thn (h.run pos pins s σ H _ I hq) fun us s1 ⟨xs, H1, I1, r, z, q⟩ => ⟨by rw [← r.length]; exact z, newP (t' := s1.toks) I1 r z q⟩)⟩
/-- t + u -/
theorem op_catP : OpR X (binaryOp .Add) (fun x y H Q => ∃ a b xs ys, x = .ref a ∧ y = .ref b ∧ SqT X.K H a xs ∧ SqT X.K H b ys ∧ xs.length + ys.length ≤ sizeLine ∧ (xs = [] → Q (.ref b) H) ∧ (xs ≠ [] → ys = [] → Q (.ref a) H) ∧
    (xs ≠ [] → ys ≠ [] → ∀ p o, TO o → H p = none → Q (.ref p) (upd H p (.frz o (.tup (xs ++ ys)))))) := by
  intro pins s σ H x y v u Q I rx ry h
  obtain ⟨a, b, xs, ys, rfl, rfl, ha, hb, hz, q0, q1, q2⟩ := h
  cases rx
  cases ry
  obtain ⟨us, r1, p1, _⟩ := I.tuple ha
  obtain ⟨vs, r2, p2, _⟩ := I.tuple hb
  by_cases hx : xs = []
  · subst hx
    cases r1
    exact cat_tup0 p1 p2 ⟨.ref b, H, I, rfl, q0 rfl⟩
  · exact HT.cat_tup p1 p2 (fun z => hx (r1.nil_iff.mp z)) (fun z => ⟨.ref a, H, I, rfl, q1 hx (r2.nil_iff.mp z)⟩) (fun z => newP (t' := s.toks) I (r1.append r2) (by rw [List.length_append]; exact hz) (q2 hx fun w => z (r2.nil_iff.mpr w))) (by rw [← r1.length, ← r2.length]; exact hz)
/-- t[lo:hi] -/
theorem sl_tupP : SlR X (fun x lo hi H Q => ∃ a xs, x = .ref a ∧ SqT X.K H a xs ∧ (HT.sIx xs.length 0 lo = 0 ∧ HT.sIx xs.length xs.length hi = xs.length → Q (.ref a) H) ∧
    (¬ (HT.sIx xs.length 0 lo = 0 ∧ HT.sIx xs.length xs.length hi = xs.length) → ∀ p o, TO o → H p = none → Q (.ref p) (upd H p (.frz o (.tup (cutV xs lo hi)))))) := by
  intro pins s σ H x v vl vu lo hi sl Q I rx hs pl pu h
  obtain ⟨a, xs, rfl, hx, q1, q2⟩ := h
  cases rx
  obtain ⟨us, r, ht, hz⟩ := I.tuple hx
  have hlen : us.toArray.size = xs.length := by rw [List.size_toArray, r.length]
  refine ⟨"tuple", _, PyProof.Rows.slot_tuple_getitem.lookup, ht.typeIs, ?_⟩
  by_cases hw : HT.sIx xs.length 0 lo = 0 ∧ HT.sIx xs.length xs.length hi = xs.length
  · exact getItem_tuple_whole ht hs pl pu (by rw [hlen]; exact hw) ⟨.ref a, H, I, rfl, q1 hw⟩
  · refine HT.getItem_tuple_cut ht hs pl pu (by rw [hlen]; exact hw) ?_ (by rw [hlen]; exact hz)
    rw [hlen]
    exact newP (t' := s.toks) I ((r.drop (HT.sIx xs.length 0 lo)).take (HT.sIx xs.length xs.length hi - HT.sIx xs.length 0 lo)) (Nat.le_trans (cutV_length xs lo hi) hz) (q2 hw)
/-- tuple(x) -/
theorem call_tupleP : CallR X (.type "tuple") (fun xs H Q => ∃ p ys, xs = [.ref p] ∧ ((SqL X.K H p ys ∧ ∀ l o, TO o → H l = none → Q (.ref l) (upd H l (.frz o (.tup ys)))) ∨ (SqT X.K H p ys ∧ Q (.ref p) H))) := by
  intro pins s σ H xs us Q I r h
  obtain ⟨p, ys, rfl, h⟩ := h
  obtain ⟨u, rfl, rx⟩ := vals1 r
  cases rx
  rcases h with ⟨hq, q⟩ | ⟨hq, q⟩
  · obtain ⟨vs, r', pl, hz⟩ := I.list hq
    refine call_tuple_list pl.isList (fun g kp => ?_) (by rw [List.size_toArray, ← r'.length]; exact hz)
    have I1 : Inv X pins σ H { s with heap := g } := I.kept (t' := s.toks) kp
    exact newP (t' := s.toks) I1 r' hz q
  · obtain ⟨vs, _, pl, _⟩ := I.tuple hq
    exact call_tuple_same (items := vs.toArray) pl ⟨.ref p, H, I, rfl, q⟩
/-- tuple(range(..)) -/
theorem pe_tupRgP {e : Expr} {te : L2.St → Hp → (Int → Int → Hp → Prop) → Prop} {p pos : Pos} (hc : X.calm = true) (hg : Gl X "tuple") (hm : X.mg "tuple" = none) (he : PRg X e te) (na : starEach [e] X.env = (false, eval e X.env) :: starEach [] X.env) : PE X (.Call (.Name "tuple" p) [e] [] pos)
    (fun σ H Q => te σ H fun a b H1 => RgOk a b ∧ ∀ q o, TO o → H1 q = none → Q (.ref q) (upd H1 q (.frz o (.tup (rgV a b))))) := by
  refine ⟨fun pins s σ H Q I h => Call_ (ld_blt I hg hm boot_tuple (PyProof.Rows.callWith_type1 (args_cons (thn (he pins s σ H _ I h) fun x s1 ⟨r, a, b, t, u, v, H1, ex, hr, I1, ok, q⟩ => args_nil ?_) na) na))⟩
  subst ex
  obtain ⟨b1, b2, b3, b4, b5⟩ := ok
  refine call_tuple_range (n := (b - a).toNat) (I1.ok.hd hc) hr (small_one b1 b2 b3 b4) (rangeSize_nat a b) b5 fun g tk acc hk hi => ?_
  have I2 : Inv X pins σ H1 { s1 with heap := g, toks := tk } := I1.kept hk
  have e : acc = acc.toList.toArray := (Array.toArray_toList).symm
  rw [e]
  exact newP (t' := tk) I2 (vals_rg hi) (by rw [rgV_length, sizeLine_eq]; omega) q
/-! a tuple's methods -/
def tyT (K : PySem.W.Frag) (x : V) (H : Hp) : Prop := ∃ a xs, x = .ref a ∧ SqT K H a xs ∧ Pl K H a
theorem tyOkT : TyOk X "tuple" (tyT X.K) := by
  intro pins σ H s x v I r ty
  obtain ⟨a, xs, rfl, hs, hp⟩ := ty
  cases r
  obtain ⟨us, _, pl, _⟩ := I.tuple hs
  refine ⟨pl.typeIs, fun b e => ?_⟩
  cases e
  rcases hp with ⟨o, u, e, hc, hd⟩ | ⟨o, e, hc, hd⟩
  · obtain ⟨g, _⟩ := I.hok a _ e
    exact ⟨o, g, hd⟩
  · exact ⟨o, I.kIn a o e, hd⟩
end
end KP
end

section
set_option maxRecDepth 100000
set_option maxHeartbeats 4000000
/-! KPO: zip, enumerate; the pairs are tuples without a dict. -/
namespace KP
open PySem PySem.Spec PyProof.Rows L2
open PySem.Sem (wp)
/-- how a sequence is kept -/
structure SqK (c d : String) (Sq : PySem.W.Frag → Hp → Addr → List V → Prop) : Prop where
  nx : Nx c d
  at_ : ∀ {X : Cx} {pins : List (Addr × Obj)} {σ : L2.St} {H : Hp} {s : Shared} {a : Addr} {xs : List V}, Inv X pins σ H s → Sq X.K H a xs → ∃ us, Vals xs us ∧ SqAt d s.heap a us.toArray ∧ a < s.heap.objs.size
  inj : ∀ {X : Cx} {pins : List (Addr × Obj)} {σ : L2.St} {H : Hp} {s : Shared} {a : Addr} {xs ys : List V}, Inv X pins σ H s → Sq X.K H a xs → Sq X.K H a ys → xs = ys
theorem sqkL : SqK "list_iterator" "list" SqL := ⟨nxL, fun I h => by
  obtain ⟨us, r, l, _⟩ := I.list h
  exact ⟨us, r, l.isList, l.lt⟩, fun I h g => I.list_inj h g⟩
theorem sqkT : SqK "tuple_iterator" "tuple" SqT := ⟨nxT, fun I h => by
  obtain ⟨us, r, l, _⟩ := I.tuple h
  obtain ⟨_, u, _⟩ := id l
  exact ⟨us, r, l, Heap.lt_size u⟩, fun I h g => I.tuple_inj h g⟩
/-- both as they stand at each turn -/
def ItzP (S1 S2 : PySem.W.Frag → Hp → Addr → List V → Prop) (K : PySem.W.Frag) (a b : Addr) : It :=
  ⟨fun i H => ∃ (xs ys : List V) (x y : V), S1 K H a xs ∧ S2 K H b ys ∧ xs[i]? = some x ∧ ys[i]? = some y,
    fun i H v H' => ∃ T x y o, v = .ref T ∧ TO o ∧ H T = none ∧ H' = upd H T (.frz o (.tup [x, y])) ∧ (∀ xs, S1 K H a xs → xs[i]? = some x) ∧ ∀ ys, S2 K H b ys → ys[i]? = some y,
    fun i H => ∃ xs ys : List V, S1 K H a xs ∧ S2 K H b ys ∧ (xs.length ≤ i ∨ ys.length ≤ i)⟩
theorem turn_zipP {c1 d1 c2 d2 : String} {S1 S2 : PySem.W.Frag → Hp → Addr → List V → Prop} (k1 : SqK c1 d1 S1) (k2 : SqK c2 d2 S2) {P : Program} {w : World} {K : PySem.W.Frag} {elts : List Expr} {kk : Nat} {tpos : Pos} {a b z t o i j : Addr} (D : ZipApart z t o i j a b) :
    Turn P w K (.Tuple elts kk tpos) (ItzP S1 S2 K a b) [z, t, o, i, j] z (fun k h => IsZip h z t o .none ∧ IsPair h t (.ref i) (.ref j) ∧ (∃ x y, IsPair h o x y) ∧ WkAt c1 h i a k ∧ WkAt c2 h j b k) where
  mem := by simp
  obj := fun k h st c hc => by
    obtain ⟨hz, ht, ⟨x, y, ho⟩, ⟨u1, e1, _, r1⟩, ⟨u2, e2, _, r2⟩⟩ := st
    rcases five hc with rfl | rfl | rfl | rfl | rfl
    · exact ⟨_, hz, fun v q => nomatch q⟩
    · exact ⟨_, ht, fun v q => nomatch q⟩
    · exact ⟨_, ho, fun v q => nomatch q⟩
    · exact ⟨u1, e1, fun v q => by rw [r1] at q; cases q⟩
    · exact ⟨u2, e2, fun v q => by rw [r2] at q; cases q⟩
  keep := fun k h h' st f => by
    obtain ⟨hz, ht, ⟨x, y, ho⟩, w1, w2⟩ := st
    exact ⟨f z (by simp) _ hz, f t (by simp) _ ht, ⟨x, y, f o (by simp) _ ho⟩, w1.to fun u e => f i (by simp) u e, w2.to fun u e => f j (by simp) u e⟩
  item := by
    intro X hP hw hK hc k pins s σ H E I hf st hg
    subst hP hw hK
    obtain ⟨hz, ht, ⟨x0, y0, ho⟩, w1, w2⟩ := st
    obtain ⟨xs, ys, x, y, gx, gy, hx, hy⟩ := hg
    obtain ⟨us, rx, l1, _⟩ := k1.at_ I gx
    obtain ⟨vs, ry, l2, _⟩ := k2.at_ I gy
    obtain ⟨u, hu, ru⟩ := rx.get hx
    obtain ⟨v, hv, rv⟩ := ry.get hy
    have zl : z < s.heap.objs.size := Heap.lt_size hz
    refine mzn_item k1.nx k2.nx D hz ht ho w1 w2 l1 l2 (x := u) (y := v) (by simpa using hu) (by simpa using hv) fun g gz go g1 g2 gT gs gk => ⟨_, rfl, wpAny_letOwnedTupleGo_zip (s := { s with heap := g }) gz fun f fz sb => ?_⟩
    have fT : f.get? s.heap.objs.size = some { cls := .type "tuple", data := .seq #[u, v] } := (sb.2 _ (Nat.ne_of_gt zl)).trans gT
    have new : ObjOk X.prog X.w (upd H s.heap.objs.size (.frz { cls := .type "tuple", data := .seq #[u, v] } (.tup [x, y]))) f s.heap.objs.size (.frz { cls := .type "tuple", data := .seq #[u, v] } (.tup [x, y])) := ⟨fT, by show 2 ≤ sizeLine; decide, [u, v], .cons ru (.cons rv .nil), ⟨_, fT, rfl, _, rfl⟩⟩
    have I1 : Inv X pins σ (upd H s.heap.objs.size (.frz { cls := .type "tuple", data := .seq #[u, v] } (.tup [x, y]))) { s with heap := f } := I.turnedNew (t' := s.toks) (ch := [z, t, o, i, j]) (fun c u hb e => by
      obtain ⟨n1, n2, n3, n4, n5⟩ := five_not hb
      exact (sb.2 c n1).trans (gk c u n1 n3 n4 n5 e)) hf (Nat.le_refl _) new
    refine ⟨.ref s.heap.objs.size, _, I1, rfl, ⟨_, x, y, _, rfl, ⟨rfl, rfl⟩, I.hok.fresh (Nat.le_refl _), rfl, fun l hl => by rw [k1.inj I hl gx]; exact hx, fun l hl => by rw [k2.inj I hl gy]; exact hy⟩,
      ⟨fz, (sb.2 _ D.TIz).trans (gk _ _ D.TIz D.TITO D.TIi1 D.TIi2 ht), ⟨u, v, (sb.2 _ D.TOz).trans go⟩, g1.to fun u e => (sb.2 _ D.i1z).trans e, g2.to fun u e => (sb.2 _ D.i2z).trans e⟩, fun c hcm => ?_⟩
    have lt : c < s.heap.objs.size := by
      rcases five hcm with rfl | rfl | rfl | rfl | rfl
      · exact zl
      · exact Heap.lt_size ht
      · exact Heap.lt_size ho
      · exact w1.lt
      · exact w2.lt
    rw [upd_ne (Nat.ne_of_lt lt)]
    exact (hf c hcm).1
  done := by
    intro X hP hw hK hc k pins s σ H E I hf st hg
    subst hP hw hK
    obtain ⟨hz, ht, ⟨x0, y0, ho⟩, w1, w2⟩ := st
    obtain ⟨xs, ys, gx, gy, hend⟩ := hg
    obtain ⟨us, rx, l1, _⟩ := k1.at_ I gx
    obtain ⟨vs, ry, l2, _⟩ := k2.at_ I gy
    have e1 := rx.length
    have e2 := ry.length
    have he : us.toArray[k]? = none ∨ vs.toArray[k]? = none := hend.imp (fun q => by simp; omega) (fun q => by simp; omega)
    exact mzn_stop k1.nx k2.nx (I.ok.hd hc) D hz ht ho w1 w2 l1 l2 he fun g f => ⟨rfl, I.turnedL (t' := s.toks) (ch := [z, t, o, i, j]) (fun c u hb e => by
      obtain ⟨n1, n2, n3, n4, n5⟩ := five_not hb
      exact f c u n1 n3 n4 n5 e) hf⟩
  self := fun A i s Q E st h => wpAny_pyIter_zip st.1 h
/-- zip of two lists, of two tuples, of a list and a tuple -/
def iZipP (K : PySem.W.Frag) (ta : TA) : TI := fun σ H R => ta σ H fun vs H1 => ∃ a b xs ys, vs = [.ref a, .ref b] ∧ ((SqL K H1 a xs ∧ SqL K H1 b ys ∧ R (ItzP SqL SqL K a b) H1) ∨ (SqT K H1 a xs ∧ SqT K H1 b ys ∧ R (ItzP SqT SqT K a b) H1) ∨ (SqL K H1 a xs ∧ SqT K H1 b ys ∧ R (ItzP SqL SqT K a b) H1))
abbrev fiveL (n : Nat) : List Addr := [n + 4, n + 2, n + 3, n, n + 1]
theorem pi_zipP {X : Cx} {e e2 : Expr} {ta : TA} {p pos tpos : Pos} {elts : List Expr} {kk : Nat} (hg : Gl X "zip") (hm : X.mg "zip" = none) (ha : PA X [e, e2] ta)
    (hs : starEach [e, e2] X.env = (false, eval e X.env) :: starEach [e2] X.env) (hpl : (backTo pos (starEach [e2] X.env)).any (·.1) = false) : PI X (.Tuple elts kk tpos) (.Call (.Name "zip" p) [e, e2] [] pos) (iZipP X.K ta) := by
  refine ⟨fun pins s σ H R I h => ?_⟩
  refine Call_ (ld_blt I hg hm PyProof.Rows.boot_zip (PyProof.Rows.callWith_type1 (thn (ha.run pos pins s σ H _ I h) fun vals s1 ⟨vs, H1, I1, r1, q1⟩ => ?_) hs hpl))
  obtain ⟨a, b, xs, ys, ex, q1⟩ := q1
  subst ex
  cases r1 with
  | cons ra rs =>
   cases rs with
   | cons rb rs =>
    cases rs
    cases ra
    cases rb
    have new5 : ∀ c, c ∈ fiveL s1.heap.objs.size → FpOk X pins H1 c := fun c hc => by
      have le : s1.heap.objs.size ≤ c := by
        rcases five hc with h | h | h | h | h <;> rw [h] <;> first | exact Nat.le_refl _ | exact Nat.le_add_right _ _
      exact I1.fpOk le (I1.hok.fresh le)
    rcases q1 with ⟨gx, gy, q⟩ | ⟨gx, gy, q⟩ | ⟨gx, gy, q⟩
    · obtain ⟨_, _, l1, _⟩ := I1.list gx
      obtain ⟨_, _, l2, _⟩ := I1.list gy
      refine call_zip_2 l1.isList l2.isList fun g hz ht ho w1 w2 _ f => wpAny_pyIter_zip hz ?_
      have I2 : Inv X pins σ H1 { s1 with heap := g } := I1.kept (t' := s1.toks) f
      exact ⟨s1.heap.objs.size + 4, fiveL s1.heap.objs.size, _, _, H1, rfl, I2, turn_zipP sqkL sqkL (PySem.W.ktu_apart s1.heap.objs.size a b l1.lt l2.lt), ⟨hz, ht, ⟨_, _, ho⟩, w1, w2⟩, new5, q⟩
    · obtain ⟨v1, _, l1, _⟩ := I1.tuple gx
      obtain ⟨v2, _, l2, _⟩ := I1.tuple gy
      obtain ⟨_, u1, _⟩ := id l1
      obtain ⟨_, u2, _⟩ := id l2
      refine RZ.call_zipT (show s1.heap.IsTuple a v1.toArray from l1) (show s1.heap.IsTuple b v2.toArray from l2) fun g hz ht ho w1 w2 _ f => wpAny_pyIter_zip hz ?_
      have I2 : Inv X pins σ H1 { s1 with heap := g } := I1.kept (t' := s1.toks) f
      exact ⟨s1.heap.objs.size + 4, fiveL s1.heap.objs.size, _, _, H1, rfl, I2, turn_zipP sqkT sqkT (PySem.W.ktu_apart s1.heap.objs.size a b (Heap.lt_size u1) (Heap.lt_size u2)), ⟨hz, ht, ⟨_, _, ho⟩, w1, w2⟩, new5, q⟩
    · obtain ⟨_, _, l1, _⟩ := I1.list gx
      obtain ⟨v2, _, l2, _⟩ := I1.tuple gy
      obtain ⟨_, u2, _⟩ := id l2
      refine mz_call l1.isList (show s1.heap.IsTuple b v2.toArray from l2) fun g hz ht ho w1 w2 f => wpAny_pyIter_zip hz ?_
      have I2 : Inv X pins σ H1 { s1 with heap := g } := I1.kept (t' := s1.toks) f
      exact ⟨s1.heap.objs.size + 4, fiveL s1.heap.objs.size, _, _, H1, rfl, I2, turn_zipP sqkL sqkT (PySem.W.ktu_apart s1.heap.objs.size a b l1.lt (Heap.lt_size u2)), ⟨hz, ht, ⟨_, _, ho⟩, w1, w2⟩, new5, q⟩
/-! enumerate(list) -/
def IteP (K : PySem.W.Frag) (a : Addr) : It :=
  ⟨fun i H => ∃ (xs : List V) (x : V), SqL K H a xs ∧ xs[i]? = some x, fun i H v H' => ∃ T x o, v = .ref T ∧ TO o ∧ H T = none ∧ H' = upd H T (.frz o (.tup [.int (i : Nat), x])) ∧ ∀ xs, SqL K H a xs → xs[i]? = some x, fun i H => ∃ xs : List V, SqL K H a xs ∧ xs.length ≤ i⟩
theorem two {c e i : Addr} (h : c ∈ [e, i]) : c = e ∨ c = i := by simpa using h
theorem turn_enumP {P : Program} {w : World} {K : PySem.W.Frag} {elts : List Expr} {kk : Nat} {tpos : Pos} (a e t : Addr) :
    Turn P w K (.Tuple elts kk tpos) (IteP K a) [e, t] e (fun k h => (∃ old, IsEnum h e t ((k : Nat) : Int) old) ∧ h.IsListIter t a k ∧ e ≠ t) where
  mem := by simp
  obj := fun k h st c hc => by
    obtain ⟨⟨old, he⟩, ⟨u, hu, _, du⟩, _⟩ := st
    rcases two hc with rfl | rfl
    · exact ⟨_, he, fun v q => nomatch q⟩
    · exact ⟨u, hu, fun v q => by rw [du] at q; cases q⟩
  keep := fun k h h' st f => by
    obtain ⟨⟨old, he⟩, hi, ne⟩ := st
    exact ⟨⟨old, f e (by simp) _ he⟩, hi.at fun o q => f t (by simp) o q, ne⟩
  item := by
    intro X hP hw hK hc k pins s σ H E I hf st hg
    subst hP hw hK
    obtain ⟨⟨old, he⟩, hi, ne⟩ := st
    obtain ⟨xs, x, gx, hx⟩ := hg
    obtain ⟨us, rx, l, _⟩ := I.list gx
    obtain ⟨u, hu, ru⟩ := rx.get hx
    have el : e < s.heap.objs.size := Heap.lt_size he
    have tl : t < s.heap.objs.size := by
      obtain ⟨_, q, _⟩ := hi
      exact Heap.lt_size q
    refine wpAny_pyNext_enum_item he hi l.isList (x := u) (by simpa using hu) ne fun g go gi gT gs gk => ⟨_, rfl, wpAny_letOwnedTupleGo_enum (s := { s with heap := g, toks := s.toks + 1 }) go fun f fe sb => ?_⟩
    have fT : f.get? s.heap.objs.size = some { cls := .type "tuple", data := .seq #[.int k s.toks, u] } := (sb.2 _ (Nat.ne_of_gt el)).trans gT
    have new : ObjOk X.prog X.w (upd H s.heap.objs.size (.frz { cls := .type "tuple", data := .seq #[.int k s.toks, u] } (.tup [.int (k : Nat), x]))) f s.heap.objs.size (.frz { cls := .type "tuple", data := .seq #[.int k s.toks, u] } (.tup [.int (k : Nat), x])) :=
      ⟨fT, by show 2 ≤ sizeLine; decide, [.int k s.toks, u], .cons ⟨_, rfl⟩ (.cons ru .nil), ⟨_, fT, rfl, _, rfl⟩⟩
    have I1 := I.turnedNew (t' := s.toks + 1) (h' := f) (ch := [e, t]) (fun c o hb q => by
      obtain ⟨n1, n2⟩ : c ≠ e ∧ c ≠ t := by simpa using hb
      exact (sb.2 c n1).trans (gk c o n1 n2 q)) hf (Nat.le_refl _) new
    refine ⟨.ref s.heap.objs.size, _, I1, rfl, ⟨_, x, _, rfl, ⟨rfl, rfl⟩, I.hok.fresh (Nat.le_refl _), rfl, fun ys hy => by rw [I.list_inj hy gx]; exact hx⟩, ⟨⟨u, ?_⟩, gi.at fun o q => (sb.2 t (Ne.symm ne)).trans q, ne⟩, fun c hcm => ?_⟩
    · rw [show ((k + 1 : Nat) : Int) = (k : Int) + 1 by omega]
      exact fe
    · have lt : c < s.heap.objs.size := by rcases two hcm with rfl | rfl <;> assumption
      rw [upd_ne (Nat.ne_of_lt lt)]
      exact (hf c hcm).1
  done := by
    intro X hP hw hK hc k pins s σ H E I hf st hg
    subst hP hw hK
    obtain ⟨⟨old, he⟩, hi, ne⟩ := st
    obtain ⟨xs, gx, hx⟩ := hg
    obtain ⟨us, rx, l, _⟩ := I.list gx
    obtain ⟨f0, f1, f2, f3, f4, f5⟩ := hf t (by simp)
    have hl := rx.length
    exact wpAny_pyNext_enum_end (I.ok.hd hc) he hi l.isList (by simp; omega) fun g eb => ⟨rfl, I.turned (t' := s.toks) (fun c o hb q => eb c o hb q) f0 f1 f3 f4 f5⟩
  self := fun A k s Q E st h => by
    obtain ⟨⟨_, he⟩, _⟩ := st
    exact wpAny_pyIter_enum he h
def iEnumP (K : PySem.W.Frag) (ta : TA) : TI := fun σ H R => ta σ H fun vs H1 => ∃ a xs, vs = [.ref a] ∧ SqL K H1 a xs ∧ R (IteP K a) H1
theorem pi_enumP {X : Cx} {e : Expr} {ta : TA} {p pos tpos : Pos} {elts : List Expr} {kk : Nat} (hg : Gl X "enumerate") (hm : X.mg "enumerate" = none) (ha : PA X [e] ta) (hs : starEach [e] X.env = [(false, eval e X.env)]) : PI X (.Tuple elts kk tpos) (.Call (.Name "enumerate" p) [e] [] pos) (iEnumP X.K ta) := by
  refine ⟨fun pins s σ H R I h => ?_⟩
  refine Call_ (ld_blt I hg hm boot_enumerate (PyProof.Rows.callWith_type1 (thn (ha.run pos pins s σ H _ I h) fun vals s1 ⟨vs, H1, I1, r1, q1⟩ => ?_) hs rfl))
  obtain ⟨a, xs, ex, gx, q⟩ := q1
  subst ex
  cases r1 with
  | cons ra rs =>
    cases rs
    cases ra
    obtain ⟨us, rx, l, _⟩ := I1.list gx
    refine call_enumerate_list l.isList fun g he hi hsz f => wpAny_pyIter_enum he ?_
    have I2 : Inv X pins σ H1 { s1 with heap := g } := I1.kept (t' := s1.toks) f
    refine ⟨s1.heap.objs.size + 1, [s1.heap.objs.size + 1, s1.heap.objs.size], _, _, H1, rfl, I2, turn_enumP a (s1.heap.objs.size + 1) s1.heap.objs.size, ⟨⟨.none, he⟩, hi, Nat.succ_ne_self _⟩, fun c hc => ?_, q⟩
    have le : s1.heap.objs.size ≤ c := by
      rcases two hc with h | h <;> rw [h] <;> first | exact Nat.le_refl _ | exact Nat.le_add_right _ _
    exact I1.fpOk le (I1.hok.fresh le)
end KP
end

section
set_option maxRecDepth 100000
set_option maxHeartbeats 4000000
/-! KPQ: a tuple turned round, t[::-1]. -/
namespace KP
open PySem PySem.Spec PyProof.Rows L2
theorem fm_congr {α β : Type} {f g : α → Option β} : ∀ {l : List α}, (∀ x ∈ l, f x = g x) → l.filterMap f = l.filterMap g
  | [], _ => rfl
  | a :: r, h => by
    rw [List.filterMap_cons, List.filterMap_cons, h a (by simp), fm_congr fun x hx => h x (List.mem_cons_of_mem _ hx)]
/-- from behind, one by one -/
theorem pick_rev (xs : Array Value) : ((List.range xs.size).filterMap fun (m : Nat) => xs[(((xs.size : Int) - 1) + (m : Int) * (-1)).toNat]?).toArray = xs.toList.reverse.toArray := by
  congr 1
  have e : (List.range xs.size).filterMap (fun (m : Nat) => xs[(((xs.size : Int) - 1) + (m : Int) * (-1)).toNat]?) = (List.range xs.size).filterMap (fun (m : Nat) => xs.toList.reverse[m]?) := by
    refine fm_congr fun m hm => ?_
    have hm := List.mem_range.mp hm
    rw [List.getElem?_reverse (by simpa using hm), show (((xs.size : Int) - 1) + (m : Int) * (-1)).toNat = xs.size - 1 - m by omega]
    simp
  rw [e]
  have l : xs.size = xs.toList.reverse.length := by simp
  rw [l]
  generalize xs.toList.reverse = ys
  have := PySem.W.krv_all ys.toArray
  simpa using this
theorem places_rev (n : Nat) : Builtin.Slice.slicePlaces ((n : Int) - 1) (-1) (-1) = n := by
  have h1 : ¬ ((-1 : Int) > 0) := by decide
  by_cases q : (n : Int) - 1 > -1 <;> simp only [Builtin.Slice.slicePlaces, h1, q, if_true, if_false, Int.neg_neg, Int.ediv_one] <;> omega
section
variable {prog : Program} {wd : World} {Ar : Around} {Ex : Value → Shared → Prop} {sh : Shared}
/-- what the slice tells: from the last one on, each, down -/
theorem down {sl : Addr} {v1 v2 v3 : Value} {n : Nat} {R : Int × Int × Nat → Shared → Prop} (at_ : sh.heap.IsSliceOf sl v1 v2 v3) (i1 : IsPart v1 none) (i2 : IsPart v2 none) (i3 : IsPart v3 (some (-1)))
    (fin : R (((n : Int) - 1), -1, n) sh) : wpAny (model prog wd) Ar (Builtin.Slice.sliceApplied (.ref sl) (pure (n : Int))) R Ex sh := by
  obtain ⟨o, ho, _, hd⟩ := at_
  have e := places_rev n
  unfold Builtin.Slice.sliceApplied
  unfold Builtin.Slice.sliceFields
  refine wpAny_bind (wpAny_bind (wpAny_field ho hd (x := v1) rfl (wpAny_bind (wpAny_field ho hd (x := v2) rfl (wpAny_bind (wpAny_field ho hd (x := v3) rfl (wpAny_pure (wpAny_bind (HT.slicePart_ i3 ?_)))))))))
  show wpAny _ _ (if false = true then _ else _) _ _ sh
  rw [if_neg (by simp)]
  refine wpAny_bind (HT.slicePart_ i1 (wpAny_bind (HT.slicePart_ i2 (wpAny_bind (wpAny_pure (wpAny_pure ?_))))))
  show R (((n : Int) - 1), (-1 : Int), Builtin.Slice.slicePlaces ((n : Int) - 1) (-1) (-1)) sh
  rw [e]
  exact fin
theorem item_rev {t sl : Addr} {us : Array Value} {v1 v2 v3 : Value} {R : Value → Shared → Prop} (tp : IsTup sh.heap t us) (at_ : sh.heap.IsSliceOf sl v1 v2 v3) (i1 : IsPart v1 none) (i2 : IsPart v2 none) (i3 : IsPart v3 (some (-1)))
    (fin : R (.ref sh.heap.objs.size) { sh with heap := sh.heap.push { cls := .type "tuple", data := .seq us.toList.reverse.toArray } }) (few : us.size ≤ sizeLine) : wpAny (model prog wd) Ar (getItem (.ref t) (.ref sl)) R Ex sh := by
  have fits : sizeOk (.seq us.toList.reverse.toArray) := (by simpa using few : us.toList.reverse.toArray.size ≤ sizeLine)
  have ty : sh.TypeIs (.ref sl) "slice" := let ⟨o, ho, hc, _⟩ := at_; ⟨o, ho, hc⟩
  unfold getItem
  try with_reducible refine wpAny_holding ?_; skip
  first | refine wpAny_bind (wpAny_pure ?_); skip | skip
  refine wpAny_bind (wpAny_sequenceKey tp.typeIs (by decide) (wpAny_bind (wpAny_callSpecial?_slot (name := Str.ofString "__getitem__") tp.typeIs slot_tuple_getitem
    (wpAny_call_entry slot_tuple_getitem tp.typeIs entry_tuple_getitem ?_ (args_tuple_getitem _ _)))))
  show wpAny _ _ (Builtin.Tuple.tupleItemsOf (.ref t) >>= _) _ _ sh
  refine wpAny_bind (tupleItemsOf_ tp (wpAny_bind (wpAny_typeOf ty ?_)))
  rw [if_pos (by decide)]
  refine wpAny_bind (down at_ i1 i2 i3 ?_)
  have other : ¬ (((((us.size : Int) - 1)) == 0 && false && us.size == us.size) = true) := by simp
  show wpAny _ _ (if ((((us.size : Int) - 1)) == 0 && false && us.size == us.size) = true then _ else _) _ _ sh
  rw [if_neg other, pick_rev]
  first
    | exact wpAny_bind (m := Builtin.Tuple.tupleExact _) (wpAny_newObj_type (wpAny_pure ⟨_, rfl, wpAny_pure fin⟩) fits)
    | exact wpAny_bind (m := Builtin.Tuple.tupleExact _) (wpAny_newObj_type (wpAny_bind (wpAny_pure (wpAny_pure ⟨_, rfl, wpAny_pure fin⟩))) fits)
    | exact wpAny_bind (wpAny_bind (m := Builtin.Tuple.tupleExact _) (wpAny_newObj_type (wpAny_pure (wpAny_pure ⟨_, rfl, wpAny_pure fin⟩)) fits))
    | exact wpAny_bind (wpAny_bind (m := Builtin.Tuple.tupleExact _) (wpAny_newObj_type (wpAny_pure ⟨_, rfl, wpAny_pure fin⟩) fits))
end
/-- -1, as a slice's part -/
theorem part_m1 {X : Cx} {j : Nat} {q1 q2 : Pos} : PO X (some (.UnaryOp .USub (.Constant (.int 1) j q1) q2)) (tPart (tUn (rU fun i => .int (-i)) (tC (.int 1)))) := po_some (pe_un un_neg pe_int)
theorem pe_revT {X : Cx} {e : Expr} {te : TE} {j : Nat} {q1 q2 q3 pos : Pos} (he : PE X e te) : PE X (.Subscript e (.Slice none none (some (.UnaryOp .USub (.Constant (.int 1) j q1) q2)) q3) pos)
    (fun σ H Q => te σ H fun x H1 => ∃ a ys, x = .ref a ∧ SqT X.K H1 a ys ∧ ∀ p o, TO o → H1 p = none → Q (.ref p) (upd H1 p (.frz o (.tup ys.reverse)))) :=
  ⟨fun pn sh st hp K iv hy => Subscript_ (thn (he.run pn sh st hp _ iv hy) fun val sh1 ⟨vx, hp1, iv1, rl, a, ys, ex, sq, fin⟩ => by
    subst ex
    cases rl
    have none_ := fun sh' (iv' : Inv X pn st hp1 sh') => (po_none (X := X)).run pn sh' st hp1 (fun o h => o = none ∧ h = hp1) iv' ⟨rfl, rfl⟩
    refine wpAny_Slice (thn (none_ sh1 iv1) fun v1 sh2 ⟨o1, h1, iv2, i1, z1, y1⟩ => thn (none_ sh2 (by rw [← y1]; exact iv2)) fun v2 sh3 ⟨o2, h2, iv3, i2, z2, y2⟩ =>
      thn ((part_m1 (j := j) (q1 := q1) (q2 := q2)).run pn sh3 st hp1 (fun o h => o = some (-1) ∧ h = hp1) (by rw [← y2]; exact iv3) ⟨1, rfl, -1, rfl, rfl, rfl⟩) fun v3 sh4 ⟨o3, h3, iv4, i3, z3, y3⟩ => ?_)
    subst z1 z2 z3 y3
    have iv5 := iv4.kept (h' := sh4.heap.push { cls := .type "slice", data := .fields #[v1, v2, v3] }) (t' := sh4.toks) fun b ob q => Heap.get?_push_of_some _ q
    obtain ⟨us, r, tp, few⟩ := iv5.tuple sq
    have n := r.length
    exact tail_any (ops := [.ref a, .ref sh4.heap.objs.size]) tp.typeIs slot_tuple_getitem.lookup (item_rev tp (Heap.IsSliceOf.new _ v1 v2 v3) i1 i2 i3 (newP (t' := sh4.toks) iv5 r.reverse (by rw [List.length_reverse]; exact few) fin) (by rw [List.size_toArray]; omega)) (by with_unfolding_all rfl))⟩
end KP
end

section
set_option maxRecDepth 100000
set_option maxHeartbeats 4000000
/-! KP2: how data stand in the abstract heap; readings by what the small syntax computes. -/
namespace KP
open PySem PySem.Spec PyProof.Rows L2
abbrev St := L2.St
abbrev Ends := L2.Ends

/-- what the numbers stand for -/
structure Glob where
  K : PySem.W.Frag
  nm : Nat → Str
  cls : Nat → Addr
  fad : Nat → Addr
  cad : Nat → Addr
  /-- the tables of code objects: where, what their code objects are named -/
  tb : List (Addr × Str)
/-- what may change, or is being made -/
def soft : HO → Bool
  | .lst _ | .ins _ _ _ | .dK _ => true
  | _ => false
/-- an error that was caught: its object at a, its class, its dict -/
def exO (a C dx : Addr) : HO := .ext fun h => ∃ o, h.get? a = some o ∧ o.cls = .ref C ∧ o.dict = some dx ∧ ∃ vs, o.data = .fields vs
theorem tabs_new {T : List (Addr × Str)} {H : Hp} {p : Addr} {o : HO} (t : LamX.Tabs T H) (h : H p = none) : LamX.Tabs T (upd H p o) := t.ext fun b x e => by rw [upd_ne (ne_of_none e h)]; exact e
theorem tabs_set {T : List (Addr × Str)} {H : Hp} {a : Addr} {o0 o : HO} (t : LamX.Tabs T H) (h : H a = some o0) (hs : soft o0 = true) : LamX.Tabs T (upd H a o) := fun p hp => by
  obtain ⟨ps, h1, h2, h3⟩ := t p hp
  have n1 : p.1 ≠ a := fun z => by
    rw [z, h] at h1
    cases h1
    cases hs
  refine ⟨ps, by rw [upd_ne n1]; exact h1, h2, fun pos cv e => ?_⟩
  obtain ⟨c, e1, e2⟩ := h3 pos cv e
  have n2 : c ≠ a := fun z => by
    rw [z, h] at e2
    cases e2
    cases hs
  exact ⟨c, e1, by rw [upd_ne n2]; exact e2⟩
section
variable (Γ : Glob)
mutual
inductive Rp (Φ : Hp) : V → D → Prop
  | non : Rp Φ .non .non
  | bl (b : Bool) : Rp Φ (.bl b) (.bl b)
  | int (i : Int) : Rp Φ (.int i) (.int i)
  | str (x : Str) : Rp Φ (.str x) (.str x)
  | lst {a : Addr} {vs : List V} {xs : List D} : Φ a = some (.lst vs) → Rps Φ vs xs → xs.length ≤ LN → Rp Φ (.ref a) (.lst xs)
  | tup {a : Addr} {vs : List V} {xs : List D} : SqT Γ.K Φ a vs → Rps Φ vs xs → xs.length ≤ LN → Pl Γ.K Φ a → Rp Φ (.ref a) (.tup xs)
  | dct {a : Addr} {kvs : List (Key × V)} {xs : List D} : Φ a = some (.dK kvs) → Rps Φ (kvs.map (·.2)) xs → Rp Φ (.ref a) (.dct (kvs.map (·.1)) xs)
  | obj {a dx : Addr} {fs : List (Str × V)} {c : Nat} {ns : List Nat} {xs : List D} : Φ a = some (.ins (Γ.cls c) dx fs) → fs.map (·.1) = ns.map Γ.nm → Rps Φ (fs.map (·.2)) xs → Rp Φ (.ref a) (.obj c ns xs)
  | exn {a dx : Addr} {fs : List (Str × V)} {c : Nat} {ns : List Nat} {xs : List D} : Φ a = some (exO a (Γ.cls c) dx) → Φ dx = some (.xd fs) → fs.map (·.1) = ns.map Γ.nm → Rps Φ (fs.map (·.2)) xs → Rp Φ (.ref a) (.exn c ns xs)
  | fn (f : Nat) : Rp Φ (.ref (Γ.fad f)) (.fn f)
  | scr {a : Addr} {ns : List Int} : SqL Γ.K Φ a (ns.map V.int) → Rp Φ (.ref a) (.scr ns)
inductive Rps (Φ : Hp) : List V → List D → Prop
  | nil : Rps Φ [] []
  | cons {v : V} {vs : List V} {d : D} {ds : List D} : Rp Φ v d → Rps Φ vs ds → Rps Φ (v :: vs) (d :: ds)
end
/-- Φ: what never changes; θ: the things that change; pr: what is being made, out of reach -/
structure Wd where
  Φ : Hp
  θ : List Addr
  pr : List (Addr × HO)
def Wd.cut (w : Wd) (n : Nat) : Wd := ⟨w.Φ, w.θ.take n, w.pr⟩
def Wd.le (w w' : Wd) : Prop := Same w.Φ w'.Φ ∧ (∀ (n : Nat) (a : Addr), w.θ[n]? = some a → w'.θ[n]? = some a) ∧ w'.pr = w.pr
def Rv (w : Wd) (v : V) (d : D) : Prop := (∃ n a, d = .cell n ∧ w.θ[n]? = some a ∧ v = .ref a) ∨ (d.isCell = false ∧ Rp Γ w.Φ v d)
def Rvs (w : Wd) : List V → List D → Prop
  | [], [] => True
  | v :: vs, d :: ds => Rv Γ w v d ∧ Rvs w vs ds
  | _, _ => False
def MOk (w : Wd) (H : Hp) (a : Addr) : M → Prop
  | .lst xs => ∃ vs, H a = some (.lst vs) ∧ Rps Γ w.Φ vs xs
  | .ins c ns xs => ∃ dx fs, H a = some (.ins (Γ.cls c) dx fs) ∧ fs.map (·.1) = ns.map Γ.nm ∧ Rps Γ w.Φ (fs.map (·.2)) xs
  | .dct ks xs => ∃ kvs, H a = some (.dK kvs) ∧ kvs.map (·.1) = ks ∧ Rps Γ w.Φ (kvs.map (·.2)) xs
  | .lsc xs => ∃ vs k, H a = some (.lst vs) ∧ w.θ[k]? = some a ∧ Rvs Γ (w.cut k) vs xs
  | .dead => ∃ o, w.Φ a = some o
structure OkW (w : Wd) (μ : Mu) (H : Hp) : Prop where
  frz : ∀ a o, w.Φ a = some o → H a = some o
  len : w.θ.length = μ.length
  nd : w.θ.Nodup
  cel : ∀ (n : Nat) (a : Addr) (m : M), w.θ[n]? = some a → μ[n]? = some m → MOk Γ w H a m ∧ (m ≠ .dead → w.Φ a = none)
  pro : ∀ p ∈ w.pr, H p.1 = some p.2 ∧ w.Φ p.1 = none ∧ p.1 ∉ w.θ
  ntb : ∀ a ps, w.Φ a ≠ some (.tbl ps)
  psf : ∀ p ∈ w.pr, soft p.2 = true
  tab : LamX.Tabs Γ.tb H
structure RSt (w : Wd) (σ : St) (ρ : Rho) : Prop where
  len : ρ.length = σ.length
  at_ : ∀ (i : Nat) (d : D), ρ[i]? = some (some d) → ∃ v, σ[i]? = some (some v) ∧ Rv Γ w v d
structure Good (w : Wd) (ρ : Rho) (μ : Mu) (σ : St) (H : Hp) : Prop where
  st : RSt Γ w σ ρ
  ok : OkW Γ w μ H
/-- an error's own dict -/
def ExcAt (w : Wd) (H : Hp) (dx : Addr) (ns : List Nat) (xs : List D) : Prop := ∃ fs, w.Φ dx = some (.xd fs) ∧ fs.map (·.1) = ns.map Γ.nm ∧ Rps Γ w.Φ (fs.map (·.2)) xs
def postE (W : WX) (σ : St) (w : Wd) (Q : VK) : R D → Prop
  | .ok d μ' => ∀ w' v H', w.le w' → OkW Γ w' μ' H' → Rv Γ w' v d → Q v H'
  | .exc c ns vs μ' => ∀ w' H' dx, w.le w' → OkW Γ w' μ' H' → ExcAt Γ w' H' dx ns vs → W (.ref (Γ.cls c)) (some dx) σ H'
  | .stuck => False
def postA (W : WX) (σ : St) (w : Wd) (Q : List V → Hp → Prop) : R (List D) → Prop
  | .ok d μ' => ∀ w' v H', w.le w' → OkW Γ w' μ' H' → Rvs Γ w' v d → Q v H'
  | .exc c ns vs μ' => ∀ w' H' dx, w.le w' → OkW Γ w' μ' H' → ExcAt Γ w' H' dx ns vs → W (.ref (Γ.cls c)) (some dx) σ H'
  | .stuck => False
def postB (W : WX) (σ : St) (w : Wd) (Q : Bool → Hp → Prop) : R Bool → Prop
  | .ok d μ' => ∀ w' H', w.le w' → OkW Γ w' μ' H' → Q d H'
  | .exc c ns vs μ' => ∀ w' H' dx, w.le w' → OkW Γ w' μ' H' → ExcAt Γ w' H' dx ns vs → W (.ref (Γ.cls c)) (some dx) σ H'
  | .stuck => False
/-- reading by what is computed, some values in hand -/
def RD (W : WX) (vs : List V) (f : List D → Rho → Mu → R D) : TE := fun σ H Q => ∃ w ρ μ ds, Good Γ w ρ μ σ H ∧ Rvs Γ w vs ds ∧ postE Γ W σ w Q (f ds ρ μ)
def RDA (W : WX) (vs : List V) (f : List D → Rho → Mu → R (List D)) : TA := fun σ H Q => ∃ w ρ μ ds, Good Γ w ρ μ σ H ∧ Rvs Γ w vs ds ∧ postA Γ W σ w Q (f ds ρ μ)
def RDB (W : WX) (vs : List V) (f : List D → Rho → Mu → R Bool) : TT := fun σ H Q => ∃ w ρ μ ds, Good Γ w ρ μ σ H ∧ Rvs Γ w vs ds ∧ postB Γ W σ w Q (f ds ρ μ)
abbrev rdE (W : WX) (m : Rho → Mu → R D) : TE := RD Γ W [] fun _ => m
abbrev rdA (W : WX) (m : Rho → Mu → R (List D)) : TA := RDA Γ W [] fun _ => m
abbrev rdB (W : WX) (m : Rho → Mu → R Bool) : TT := RDB Γ W [] fun _ => m
end
section
variable {Γ : Glob} {w w' w1 : Wd} {W : WX} {σ : St} {H H' : Hp} {ρ : Rho} {μ μ' : Mu} {v : V} {d : D} {vs us : List V} {ds xs : List D}
theorem Wd.refl (w : Wd) : w.le w := ⟨Same.refl _, fun _ _ h => h, rfl⟩
theorem Wd.trans (a : w.le w') (b : w'.le w1) : w.le w1 := ⟨a.1.trans b.1, fun n x h => b.2.1 n x (a.2.1 n x h), b.2.2.trans a.2.2⟩
theorem seqT_same {K : PySem.W.Frag} {Φ Φ' : Hp} {a : Addr} {xs : List V} (e : Same Φ Φ') (h : SqT K Φ a xs) : SqT K Φ' a xs := by
  rcases h with (h | ⟨o, h⟩) | h
  · exact .inl (.inl (e _ _ h))
  · exact .inl (.inr ⟨o, e _ _ h⟩)
  · exact .inr h
theorem Pl.mono {K : PySem.W.Frag} {Φ Φ' : Hp} {a : Addr} (h : Pl K Φ a) (e : Same Φ Φ') : Pl K Φ' a := by
  rcases h with ⟨o, u, h, t⟩ | h
  · exact .inl ⟨o, u, e _ _ h, t⟩
  · exact .inr h
mutual
theorem Rp.mono {Φ Φ' : Hp} (e : Same Φ Φ') : ∀ (d : D) (v : V), Rp Γ Φ v d → Rp Γ Φ' v d
  | .non, _, h => by cases h; exact .non
  | .bl _, _, h => by cases h; exact .bl _
  | .int _, _, h => by cases h; exact .int _
  | .str _, _, h => by cases h; exact .str _
  | .lst xs, _, h => by cases h with | lst a b c => exact .lst (e _ _ a) (Rps.mono e xs _ b) c
  | .tup xs, _, h => by cases h with | tup a b c d => exact .tup (seqT_same e a) (Rps.mono e xs _ b) c (d.mono e)
  | .dct _ xs, _, h => by cases h with | dct a b => exact .dct (e _ _ a) (Rps.mono e xs _ b)
  | .obj _ _ xs, _, h => by cases h with | obj a b c => exact .obj (e _ _ a) b (Rps.mono e xs _ c)
  | .exn _ _ xs, _, h => by cases h with | exn a b c d => exact .exn (e _ _ a) (e _ _ b) c (Rps.mono e xs _ d)
  | .fn _, _, h => by cases h; exact .fn _
  | .scr _, _, h => by cases h with | scr a => exact .scr (e.seq a)
  | .cell _, _, h => by cases h
theorem Rps.mono {Φ Φ' : Hp} (e : Same Φ Φ') : ∀ (ds : List D) (vs : List V), Rps Γ Φ vs ds → Rps Γ Φ' vs ds
  | [], _, h => by cases h; exact .nil
  | d :: ds, _, h => by cases h with | cons a b => exact .cons (Rp.mono e d _ a) (Rps.mono e ds _ b)
end
theorem Rp.noCell {Φ : Hp} (h : Rp Γ Φ v d) : d.isCell = false := by cases h <;> rfl
/-- the same, whatever is being made -/
def Wd.lf (w w' : Wd) : Prop := Same w.Φ w'.Φ ∧ ∀ (n : Nat) (a : Addr), w.θ[n]? = some a → w'.θ[n]? = some a
theorem Wd.le.lf (h : w.le w') : w.lf w' := ⟨h.1, h.2.1⟩
theorem Wd.lf.trans (a : w.lf w') (b : w'.lf w1) : w.lf w1 := ⟨a.1.trans b.1, fun n x h => b.2 n x (a.2 n x h)⟩
theorem Rv.monf (e : w.lf w') (h : Rv Γ w v d) : Rv Γ w' v d := by
  rcases h with ⟨n, a, e1, e2, e3⟩ | ⟨e1, e2⟩
  · exact .inl ⟨n, a, e1, e.2 _ _ e2, e3⟩
  · exact .inr ⟨e1, Rp.mono e.1 _ _ e2⟩
theorem Rv.mono (e : w.le w') (h : Rv Γ w v d) : Rv Γ w' v d := by
  rcases h with ⟨n, a, e1, e2, e3⟩ | ⟨e1, e2⟩
  · exact .inl ⟨n, a, e1, e.2.1 _ _ e2, e3⟩
  · exact .inr ⟨e1, Rp.mono e.1 _ _ e2⟩
theorem Rvs.mono (e : w.le w') : ∀ {vs : List V} {ds : List D}, Rvs Γ w vs ds → Rvs Γ w' vs ds
  | [], [], _ => trivial
  | [], _ :: _, h => h.elim
  | _ :: _, [], h => h.elim
  | _ :: _, _ :: _, h => ⟨h.1.mono e, Rvs.mono e h.2⟩
theorem Rvs.snoc : ∀ {vs : List V} {ds : List D}, Rvs Γ w vs ds → Rv Γ w v d → Rvs Γ w (vs ++ [v]) (ds ++ [d])
  | [], [], _, h => ⟨h, trivial⟩
  | [], _ :: _, h, _ => h.elim
  | _ :: _, [], h, _ => h.elim
  | _ :: _, _ :: _, h, q => ⟨h.1, Rvs.snoc h.2 q⟩
theorem Rvs.app : ∀ {vs us : List V} {ds xs : List D}, Rvs Γ w vs ds → Rvs Γ w us xs → Rvs Γ w (vs ++ us) (ds ++ xs)
  | [], _, [], _, _, h => h
  | [], _, _ :: _, _, h, _ => h.elim
  | _ :: _, _, [], _, h, _ => h.elim
  | _ :: _, _, _ :: _, _, h, q => ⟨h.1, Rvs.app h.2 q⟩
theorem Rvs.len : ∀ {vs : List V} {ds : List D}, Rvs Γ w vs ds → vs.length = ds.length
  | [], [], _ => rfl
  | [], _ :: _, h => h.elim
  | _ :: _, [], h => h.elim
  | _ :: _, _ :: _, h => congrArg (· + 1) (Rvs.len h.2)
theorem Rvs.get : ∀ {vs : List V} {ds : List D} {i : Nat} {d : D}, Rvs Γ w vs ds → ds[i]? = some d → ∃ v, vs[i]? = some v ∧ Rv Γ w v d
  | [], [], i, d, _, e => by simp at e
  | [], _ :: _, _, _, h, _ => h.elim
  | _ :: _, [], _, _, h, _ => h.elim
  | v :: _, x :: _, 0, d, h, e => by
    have e' : x = d := by simpa using e
    exact ⟨v, rfl, e' ▸ h.1⟩
  | _ :: _, _ :: _, i + 1, d, h, e => Rvs.get (i := i) h.2 (by simpa using e)
theorem Rps.of {Φ : Hp} {θ : List Addr} {ps : List (Addr × HO)} : ∀ {vs : List V} {ds : List D}, Rvs Γ ⟨Φ, θ, ps⟩ vs ds → anyCell ds = false → Rps Γ Φ vs ds
  | [], [], _, _ => .nil
  | [], _ :: _, h, _ => h.elim
  | _ :: _, [], h, _ => h.elim
  | v :: vs, d :: ds, h, q => by
    have q2 : (d.isCell || anyCell ds) = false := q
    rw [Bool.or_eq_false_iff] at q2
    rcases h.1 with ⟨n, a, e, _⟩ | ⟨_, r⟩
    · subst e; have q3 : true = false := q2.1; cases q3
    · exact .cons r (Rps.of h.2 q2.2)
theorem Rps.len {Φ : Hp} : ∀ {vs : List V} {ds : List D}, Rps Γ Φ vs ds → vs.length = ds.length
  | _, _, .nil => rfl
  | _, _, .cons _ r => congrArg (· + 1) r.len
theorem Rps.get {Φ : Hp} : ∀ {vs : List V} {ds : List D} {i : Nat} {d : D}, Rps Γ Φ vs ds → ds[i]? = some d → ∃ v, vs[i]? = some v ∧ Rp Γ Φ v d
  | _, _, i, _, .nil, e => by simp at e
  | _, _, 0, _, .cons (v := v) r _, e => ⟨v, rfl, (by simpa using e : _ = _) ▸ r⟩
  | _, _, i + 1, _, .cons _ r, e => Rps.get (i := i) r (by simpa using e)
theorem Rps.app {Φ : Hp} : ∀ {vs us : List V} {ds xs : List D}, Rps Γ Φ vs ds → Rps Γ Φ us xs → Rps Γ Φ (vs ++ us) (ds ++ xs)
  | _, _, _, _, .nil, q => q
  | _, _, _, _, .cons a r, q => .cons a (Rps.app r q)
theorem Rps.drop {Φ : Hp} : ∀ {vs : List V} {ds : List D} (n : Nat), Rps Γ Φ vs ds → Rps Γ Φ (vs.drop n) (ds.drop n)
  | _, _, 0, h => h
  | _, _, _ + 1, .nil => .nil
  | _, _, n + 1, .cons _ r => Rps.drop n r
theorem Rps.take {Φ : Hp} : ∀ {vs : List V} {ds : List D} (n : Nat), Rps Γ Φ vs ds → Rps Γ Φ (vs.take n) (ds.take n)
  | _, _, 0, _ => .nil
  | _, _, _ + 1, .nil => .nil
  | _, _, n + 1, .cons a r => .cons a (Rps.take n r)
theorem Rps.set {Φ : Hp} {v : V} {d : D} (h : Rp Γ Φ v d) : ∀ {vs : List V} {ds : List D} (n : Nat), Rps Γ Φ vs ds → Rps Γ Φ (vs.set n v) (ds.set n d)
  | _, _, _, .nil => .nil
  | _, _, 0, .cons _ r => .cons h r
  | _, _, n + 1, .cons a r => .cons a (Rps.set h n r)
theorem RSt.monf (e : w.lf w') (h : RSt Γ w σ ρ) : RSt Γ w' σ ρ := ⟨h.len, fun i d q => let ⟨v, a, b⟩ := h.at_ i d q; ⟨v, a, b.monf e⟩⟩
theorem RSt.mono (e : w.le w') (h : RSt Γ w σ ρ) : RSt Γ w' σ ρ := ⟨h.len, fun i d q => let ⟨v, a, b⟩ := h.at_ i d q; ⟨v, a, b.mono e⟩⟩
theorem RSt.set {i : Nat} (h : RSt Γ w σ ρ) (r : Rv Γ w v d) : RSt Γ w (σ.set i (some v)) (ρ.set i (some d)) := by
  refine ⟨by simp [h.len], fun j x q => ?_⟩
  by_cases hj : i = j
  · subst hj
    have hi : i < ρ.length := by
      have := (List.getElem?_eq_some_iff.mp q).1
      simpa using this
    rw [List.getElem?_set_self hi] at q
    rw [List.getElem?_set_self (by rw [← h.len]; exact hi)]
    have e : d = x := Option.some.inj (Option.some.inj q)
    exact ⟨v, rfl, e ▸ r⟩
  · rw [List.getElem?_set_ne hj] at q
    rw [List.getElem?_set_ne hj]
    exact h.at_ j x q
theorem postE.mono {Q : VK} {r : R D} (e : w.le w') (h : postE Γ W σ w Q r) : postE Γ W σ w' Q r := by
  cases r with
  | ok d μ => exact fun w1 v H1 le ok rv => h w1 v H1 (Wd.trans e le) ok rv
  | exc c ns vs μ => exact fun w1 H1 dx le ok x => h w1 H1 dx (Wd.trans e le) ok x
  | stuck => exact h
theorem postA.mono {Q : List V → Hp → Prop} {r : R (List D)} (e : w.le w') (h : postA Γ W σ w Q r) : postA Γ W σ w' Q r := by
  cases r with
  | ok d μ => exact fun w1 v H1 le ok rv => h w1 v H1 (Wd.trans e le) ok rv
  | exc c ns vs μ => exact fun w1 H1 dx le ok x => h w1 H1 dx (Wd.trans e le) ok x
  | stuck => exact h
theorem postB.mono {Q : Bool → Hp → Prop} {r : R Bool} (e : w.le w') (h : postB Γ W σ w Q r) : postB Γ W σ w' Q r := by
  cases r with
  | ok d μ => exact fun w1 H1 le ok => h w1 H1 (Wd.trans e le) ok
  | exc c ns vs μ => exact fun w1 H1 dx le ok x => h w1 H1 dx (Wd.trans e le) ok x
  | stuck => exact h
/-! one part is evaluated, then the rest -/
theorem RD.eval {m : Rho → Mu → R D} {f : List D → Rho → Mu → R D} {Q : VK} (h : RD Γ W vs (fun ds ρ μ => (m ρ μ).bind fun d μ => f (ds ++ [d]) ρ μ) σ H Q) :
    rdE Γ W m σ H fun v H1 => RD Γ W (vs ++ [v]) f σ H1 Q := by
  obtain ⟨w, ρ, μ, ds, g, rv, p⟩ := h
  refine ⟨w, ρ, μ, [], g, trivial, ?_⟩
  dsimp only at p ⊢
  generalize m ρ μ = r at p ⊢
  cases r with
  | ok d μ1 =>
    exact fun w1 v H1 le ok r => ⟨w1, ρ, μ1, ds ++ [d], ⟨g.st.mono le, ok⟩, (rv.mono le).snoc r, p.mono le⟩
  | exc c ns xs μ1 => exact p
  | stuck => exact p
theorem RD.evals {m : Rho → Mu → R (List D)} {f : List D → Rho → Mu → R D} {Q : VK} (h : RD Γ W vs (fun ds ρ μ => (m ρ μ).bind fun d μ => f (ds ++ d) ρ μ) σ H Q) :
    rdA Γ W m σ H fun us H1 => RD Γ W (vs ++ us) f σ H1 Q := by
  obtain ⟨w, ρ, μ, ds, g, rv, p⟩ := h
  refine ⟨w, ρ, μ, [], g, trivial, ?_⟩
  dsimp only at p ⊢
  generalize m ρ μ = r at p ⊢
  cases r with
  | ok d μ1 =>
    exact fun w1 v H1 le ok r => ⟨w1, ρ, μ1, ds ++ d, ⟨g.st.mono le, ok⟩, (rv.mono le).app r, p.mono le⟩
  | exc c ns xs μ1 => exact p
  | stuck => exact p
theorem RD.test {m : Rho → Mu → R Bool} {f : Bool → List D → Rho → Mu → R D} {Q : VK} (h : RD Γ W vs (fun ds ρ μ => (m ρ μ).bind fun d μ => f d ds ρ μ) σ H Q) :
    rdB Γ W m σ H fun k H1 => RD Γ W vs (f k) σ H1 Q := by
  obtain ⟨w, ρ, μ, ds, g, rv, p⟩ := h
  refine ⟨w, ρ, μ, [], g, trivial, ?_⟩
  dsimp only at p ⊢
  generalize m ρ μ = r at p ⊢
  cases r with
  | ok d μ1 =>
    exact fun w1 H1 le ok => ⟨w1, ρ, μ1, ds, ⟨g.st.mono le, ok⟩, rv.mono le, p.mono le⟩
  | exc c ns xs μ1 => exact p
  | stuck => exact p
theorem RDB.eval {m : Rho → Mu → R D} {f : List D → Rho → Mu → R Bool} {Q : Bool → Hp → Prop} (h : RDB Γ W vs (fun ds ρ μ => (m ρ μ).bind fun d μ => f (ds ++ [d]) ρ μ) σ H Q) :
    rdE Γ W m σ H fun v H1 => RDB Γ W (vs ++ [v]) f σ H1 Q := by
  obtain ⟨w, ρ, μ, ds, g, rv, p⟩ := h
  refine ⟨w, ρ, μ, [], g, trivial, ?_⟩
  dsimp only at p ⊢
  generalize m ρ μ = r at p ⊢
  cases r with
  | ok d μ1 =>
    exact fun w1 v H1 le ok r => ⟨w1, ρ, μ1, ds ++ [d], ⟨g.st.mono le, ok⟩, (rv.mono le).snoc r, p.mono le⟩
  | exc c ns xs μ1 => exact p
  | stuck => exact p
theorem RDB.test {m : Rho → Mu → R Bool} {f : Bool → List D → Rho → Mu → R Bool} {Q : Bool → Hp → Prop} (h : RDB Γ W vs (fun ds ρ μ => (m ρ μ).bind fun d μ => f d ds ρ μ) σ H Q) :
    rdB Γ W m σ H fun k H1 => RDB Γ W vs (f k) σ H1 Q := by
  obtain ⟨w, ρ, μ, ds, g, rv, p⟩ := h
  refine ⟨w, ρ, μ, [], g, trivial, ?_⟩
  dsimp only at p ⊢
  generalize m ρ μ = r at p ⊢
  cases r with
  | ok d μ1 =>
    exact fun w1 H1 le ok => ⟨w1, ρ, μ1, ds, ⟨g.st.mono le, ok⟩, rv.mono le, p.mono le⟩
  | exc c ns xs μ1 => exact p
  | stuck => exact p
theorem RDA.eval {m : Rho → Mu → R D} {f : List D → Rho → Mu → R (List D)} {Q : List V → Hp → Prop} (h : RDA Γ W vs (fun ds ρ μ => (m ρ μ).bind fun d μ => f (ds ++ [d]) ρ μ) σ H Q) :
    rdE Γ W m σ H fun v H1 => RDA Γ W (vs ++ [v]) f σ H1 Q := by
  obtain ⟨w, ρ, μ, ds, g, rv, p⟩ := h
  refine ⟨w, ρ, μ, [], g, trivial, ?_⟩
  dsimp only at p ⊢
  generalize m ρ μ = r at p ⊢
  cases r with
  | ok d μ1 =>
    exact fun w1 v H1 le ok r => ⟨w1, ρ, μ1, ds ++ [d], ⟨g.st.mono le, ok⟩, (rv.mono le).snoc r, p.mono le⟩
  | exc c ns xs μ1 => exact p
  | stuck => exact p
theorem RDA.evals {m : Rho → Mu → R (List D)} {f : List D → Rho → Mu → R (List D)} {Q : List V → Hp → Prop} (h : RDA Γ W vs (fun ds ρ μ => (m ρ μ).bind fun d μ => f (ds ++ d) ρ μ) σ H Q) :
    rdA Γ W m σ H fun us H1 => RDA Γ W (vs ++ us) f σ H1 Q := by
  obtain ⟨w, ρ, μ, ds, g, rv, p⟩ := h
  refine ⟨w, ρ, μ, [], g, trivial, ?_⟩
  dsimp only at p ⊢
  generalize m ρ μ = r at p ⊢
  cases r with
  | ok d μ1 =>
    exact fun w1 v H1 le ok r => ⟨w1, ρ, μ1, ds ++ d, ⟨g.st.mono le, ok⟩, (rv.mono le).app r, p.mono le⟩
  | exc c ns xs μ1 => exact p
  | stuck => exact p
/-! ### new and written objects -/
def Wd.add (w : Wd) (p : Addr) (o : HO) : Wd := ⟨upd w.Φ p o, w.θ, w.pr⟩
def Wd.cel (w : Wd) (p : Addr) : Wd := ⟨w.Φ, w.θ ++ [p], w.pr⟩
theorem OkW.fresh (ok : OkW Γ w μ H) {p : Addr} (h : H p = none) : w.Φ p = none := by
  cases e : w.Φ p with
  | none => rfl
  | some o => rw [ok.frz p o e] at h; cases h
theorem MOk.there {a : Addr} {m : M} (h : MOk Γ w H a m) (f : ∀ a o, w.Φ a = some o → H a = some o) : ∃ o, H a = some o := by
  cases m with
  | lst xs => obtain ⟨vs, e, _⟩ := h; exact ⟨_, e⟩
  | ins c ns xs => obtain ⟨dx, fs, e, _⟩ := h; exact ⟨_, e⟩
  | dct ks xs => obtain ⟨kvs, e, _⟩ := h; exact ⟨_, e⟩
  | lsc xs => obtain ⟨vs, k, e, _⟩ := h; exact ⟨_, e⟩
  | dead => obtain ⟨o, e⟩ := h; exact ⟨o, f _ _ e⟩
theorem OkW.notNew (ok : OkW Γ w μ H) {p : Addr} (h : H p = none) : p ∉ w.θ := fun hm => by
  obtain ⟨n, hn⟩ := List.mem_iff_getElem?.mp hm
  have hlt := (List.getElem?_eq_some_iff.mp hn).1
  rw [ok.len] at hlt
  obtain ⟨o, e⟩ := (ok.cel n p _ hn (List.getElem?_eq_getElem hlt)).1.there ok.frz
  rw [h] at e; cases e
theorem Wd.add_le {p : Addr} {o : HO} (h : w.Φ p = none) : w.le (w.add p o) := ⟨fun b x e => by
  show upd w.Φ p o b = some x
  rw [upd_ne (ne_of_none e h)]
  exact e, fun _ _ q => q, rfl⟩
theorem Wd.cel_le (w : Wd) (p : Addr) : w.le (w.cel p) := ⟨Same.refl _, fun n a q => by
  show (w.θ ++ [p])[n]? = some a
  rw [List.getElem?_append_left (List.getElem?_eq_some_iff.mp q).1]
  exact q, rfl⟩
theorem Rvs.monf {w w' : Wd} (e : w.lf w') : ∀ {vs : List V} {ds : List D}, Rvs Γ w vs ds → Rvs Γ w' vs ds
  | [], [], _ => trivial
  | [], _ :: _, h => h.elim
  | _ :: _, [], h => h.elim
  | _ :: _, _ :: _, h => ⟨h.1.monf e, Rvs.monf e h.2⟩
theorem Wd.lf.cut {w w' : Wd} (e : w.lf w') (k : Nat) : (w.cut k).lf (w'.cut k) := ⟨e.1, fun n a h => by
  have h' : (w.θ.take k)[n]? = some a := h
  show (w'.θ.take k)[n]? = some a
  have hn : n < k := by
    rcases Nat.lt_or_ge n k with q | q
    · exact q
    · rw [List.getElem?_eq_none (by rw [List.length_take]; omega)] at h'; cases h'
  rw [List.getElem?_take_of_lt hn] at h' ⊢
  exact e.2 n a h'⟩
theorem Wd.cut_lf (w : Wd) (k : Nat) : (w.cut k).lf w := ⟨Same.refl _, fun n a h => by
  have h' : (w.θ.take k)[n]? = some a := h
  have hn : n < k := by
    rcases Nat.lt_or_ge n k with q | q
    · exact q
    · rw [List.getElem?_eq_none (by rw [List.length_take]; omega)] at h'; cases h'
  rw [List.getElem?_take_of_lt hn] at h'
  exact h'⟩
theorem MOk.mono {a : Addr} {m : M} (e : w.le w') (q : ∀ o, H a = some o → H' a = some o) (h : MOk Γ w H a m) : MOk Γ w' H' a m := by
  cases m with
  | lst xs => obtain ⟨vs, a1, a2⟩ := h; exact ⟨vs, q _ a1, a2.mono e.1⟩
  | ins c ns xs => obtain ⟨dx, fs, a1, a2, a3⟩ := h; exact ⟨dx, fs, q _ a1, a2, a3.mono e.1⟩
  | dct ks xs => obtain ⟨kvs, a1, a2, a3⟩ := h; exact ⟨kvs, q _ a1, a2, a3.mono e.1⟩
  | lsc xs => obtain ⟨vs, k, a1, a2, a3⟩ := h; exact ⟨vs, k, q _ a1, e.2.1 _ _ a2, a3.monf (e.lf.cut k)⟩
  | dead => obtain ⟨o, a1⟩ := h; exact ⟨o, e.1 _ _ a1⟩
theorem MOk.lf {a : Addr} {m : M} (e : w.lf w') (h : MOk Γ w H a m) : MOk Γ w' H a m := by
  cases m with
  | lst xs => obtain ⟨vs, a1, a2⟩ := h; exact ⟨vs, a1, a2.mono e.1⟩
  | ins c ns xs => obtain ⟨dx, fs, a1, a2, a3⟩ := h; exact ⟨dx, fs, a1, a2, a3.mono e.1⟩
  | dct ks xs => obtain ⟨kvs, a1, a2, a3⟩ := h; exact ⟨kvs, a1, a2, a3.mono e.1⟩
  | lsc xs => obtain ⟨vs, k, a1, a2, a3⟩ := h; exact ⟨vs, k, a1, e.2 _ _ a2, a3.monf (e.cut k)⟩
  | dead => obtain ⟨o, a1⟩ := h; exact ⟨o, e.1 _ _ a1⟩
/-- a new object that never changes -/
theorem OkW.add (ok : OkW Γ w μ H) {p : Addr} {o : HO} (h : H p = none) (ho : ∀ ps, o ≠ .tbl ps := by intro _ z; cases z) : OkW Γ (w.add p o) μ (upd H p o) := by
  have hw := ok.fresh h
  refine ⟨fun a x e => ?_, ok.len, ok.nd, fun n a m e1 e2 => ?_, fun q hq => ?_, fun a ps e => ?_, ok.psf, tabs_new ok.tab h⟩
  · by_cases ha : a = p
    · subst ha
      have e' : upd w.Φ a o a = some x := e
      rw [upd_same] at e' ⊢
      exact e'
    · have e' : upd w.Φ p o a = some x := e
      rw [upd_ne ha] at e' ⊢
      exact ok.frz a x e'
  · obtain ⟨h1, h2⟩ := ok.cel n a m e1 e2
    have ha : a ≠ p := fun z => ok.notNew h (z ▸ List.mem_of_getElem? e1)
    refine ⟨h1.mono (Wd.add_le hw) fun x q => by rw [upd_ne ha]; exact q, fun hm => ?_⟩
    show upd w.Φ p o a = none
    rw [upd_ne ha]
    exact h2 hm
  · obtain ⟨q1, q2, q3⟩ := ok.pro q hq
    have ha : q.1 ≠ p := ne_of_none q1 h
    refine ⟨by rw [upd_ne ha]; exact q1, ?_, q3⟩
    show upd w.Φ p o q.1 = none
    rw [upd_ne ha]; exact q2
  · by_cases ha : a = p
    · subst ha
      have e' : upd w.Φ a o a = some (.tbl ps) := e
      rw [upd_same] at e'
      exact ho ps (Option.some.inj e')
    · have e' : upd w.Φ p o a = some (.tbl ps) := e
      rw [upd_ne ha] at e'
      exact ok.ntb a ps e'
/-- a new object that changes -/
theorem OkW.addCelW (ok : OkW Γ w μ H) {p : Addr} {o : HO} {m : M} (h : H p = none) (hm : MOk Γ (w.cel p) (upd H p o) p m) : OkW Γ (w.cel p) (μ ++ [m]) (upd H p o) := by
  have hw := ok.fresh h
  refine ⟨fun a x e => ?_, by show (w.θ ++ [p]).length = _; simp [ok.len], ?_, fun n a k e1 e2 => ?_, fun q hq => ?_, ok.ntb, ok.psf, tabs_new ok.tab h⟩
  · have ha : a ≠ p := ne_of_none e hw
    rw [upd_ne ha]
    exact ok.frz a x e
  · show (w.θ ++ [p]).Nodup
    rw [List.nodup_append]
    refine ⟨ok.nd, by simp, fun a ha b hb => ?_⟩
    have eb : b = p := by simpa using hb
    rw [eb]
    exact fun z => ok.notNew h (z ▸ ha)
  · have e1' : (w.θ ++ [p])[n]? = some a := e1
    by_cases hn : n < w.θ.length
    · rw [List.getElem?_append_left hn] at e1'
      rw [List.getElem?_append_left (by rw [← ok.len]; exact hn)] at e2
      obtain ⟨h1, h2⟩ := ok.cel n a k e1' e2
      have ha : a ≠ p := fun z => ok.notNew h (z ▸ List.mem_of_getElem? e1')
      exact ⟨h1.mono (w.cel_le p) fun x q => by rw [upd_ne ha]; exact q, h2⟩
    · have hn2 : n = w.θ.length := by
        have := (List.getElem?_eq_some_iff.mp e1').1
        simp at this
        omega
      subst hn2
      have ea : p = a := by simpa using e1'
      have ek : m = k := by rw [ok.len] at e2; simpa using e2
      subst ea ek
      exact ⟨hm, fun _ => hw⟩
  · obtain ⟨q1, q2, q3⟩ := ok.pro q hq
    have ha : q.1 ≠ p := ne_of_none q1 h
    refine ⟨by rw [upd_ne ha]; exact q1, q2, fun z => ?_⟩
    rcases List.mem_append.mp z with z | z
    · exact q3 z
    · exact ha (List.mem_singleton.mp z)
theorem OkW.addCel (ok : OkW Γ w μ H) {p : Addr} {o : HO} {m : M} (h : H p = none) (hm : MOk Γ w (upd H p o) p m) : OkW Γ (w.cel p) (μ ++ [m]) (upd H p o) := ok.addCelW h (hm.mono (w.cel_le p) fun _ q => q)
/-- a list with things in it that change -/
theorem OkW.addLsc (ok : OkW Γ w μ H) {p : Addr} {vs : List V} {xs : List D} (h : H p = none) (r : Rvs Γ w vs xs) : OkW Γ (w.cel p) (μ ++ [.lsc xs]) (upd H p (.lst vs)) := by
  refine ok.addCelW h ⟨vs, w.θ.length, upd_same, by show (w.θ ++ [p])[w.θ.length]? = some p; simp, ?_⟩
  refine Rvs.monf (w := w) (w' := (w.cel p).cut w.θ.length) ⟨Same.refl _, fun n a e => ?_⟩ r
  show ((w.θ ++ [p]).take w.θ.length)[n]? = some a
  rw [List.take_left]
  exact e
/-- a thing that changes is written -/
theorem OkW.write (ok : OkW Γ w μ H) {n : Nat} {a : Addr} {m0 m : M} {o : HO} (h1 : w.θ[n]? = some a) (h2 : μ[n]? = some m0) (h3 : m0 ≠ .dead) (hm : MOk Γ w (upd H a o) a m) : OkW Γ w (μ.set n m) (upd H a o) := by
  have hw := (ok.cel n a m0 h1 h2).2 h3
  have hlt : n < μ.length := (List.getElem?_eq_some_iff.mp h2).1
  have hsf : ∃ o0, H a = some o0 ∧ soft o0 = true := by
    have q := (ok.cel n a m0 h1 h2).1
    cases m0 with
    | lst xs => obtain ⟨vs, e, _⟩ := q; exact ⟨_, e, rfl⟩
    | ins c ns xs => obtain ⟨dx, fs, e, _⟩ := q; exact ⟨_, e, rfl⟩
    | dct ks xs => obtain ⟨kvs, e, _⟩ := q; exact ⟨_, e, rfl⟩
    | lsc xs => obtain ⟨vs, k, e, _⟩ := q; exact ⟨_, e, rfl⟩
    | dead => exact absurd rfl h3
  obtain ⟨o0, hs1, hs2⟩ := hsf
  refine ⟨fun b x e => ?_, by simp [ok.len], ok.nd, fun k b q e1 e2 => ?_, fun q hq => ?_, ok.ntb, ok.psf, tabs_set ok.tab hs1 hs2⟩
  · rw [upd_ne (ne_of_none e hw)]
    exact ok.frz b x e
  · by_cases hk : n = k
    · subst hk
      rw [List.getElem?_set_self hlt] at e2
      rw [h1] at e1
      cases e1
      cases e2
      exact ⟨hm, fun _ => hw⟩
    · rw [List.getElem?_set_ne hk] at e2
      obtain ⟨q1, q2⟩ := ok.cel k b q e1 e2
      have hb : b ≠ a := fun z => by
        subst z
        have l1 := (List.getElem?_eq_some_iff.mp h1).1
        have l2 := (List.getElem?_eq_some_iff.mp e1).1
        have g1 := (List.getElem?_eq_some_iff.mp h1).2
        have g2 := (List.getElem?_eq_some_iff.mp e1).2
        exact hk ((List.getElem_inj ok.nd).mp (g1.trans g2.symm))
      exact ⟨q1.mono w.refl fun x z => by rw [upd_ne hb]; exact z, q2⟩
  · obtain ⟨q1, q2, q3⟩ := ok.pro q hq
    have ha : q.1 ≠ a := fun z => q3 (z ▸ List.mem_of_getElem? h1)
    exact ⟨by rw [upd_ne ha]; exact q1, q2, q3⟩
/-- what never changes, known of the heap already -/
theorem OkW.known (ok : OkW Γ w μ H) {p : Addr} {o : HO} (h : H p = some o) (hs : soft o = false) (ho : ∀ ps, o ≠ .tbl ps) : OkW Γ (w.add p o) μ H ∧ w.le (w.add p o) := by
  have hw : ∀ x, w.Φ p = some x → x = o := fun x e => by
    have := ok.frz p x e
    rw [h] at this
    exact (Option.some.inj this).symm
  have le : w.le (w.add p o) := ⟨fun b x e => by
    show upd w.Φ p o b = some x
    by_cases hb : b = p
    · subst hb
      rw [upd_same, hw x e]
    · rw [upd_ne hb]; exact e, fun _ _ q => q, rfl⟩
  have at_ : ∀ b x, upd w.Φ p o b = some x → (b = p ∧ x = o) ∨ (b ≠ p ∧ w.Φ b = some x) := fun b x e => by
    by_cases hb : b = p
    · subst hb
      rw [upd_same] at e
      exact .inl ⟨rfl, (Option.some.inj e).symm⟩
    · rw [upd_ne hb] at e
      exact .inr ⟨hb, e⟩
  refine ⟨⟨fun a x e => ?_, ok.len, ok.nd, fun n a m e1 e2 => ?_, fun q hq => ?_, fun a ps e => ?_, ok.psf, ok.tab⟩, le⟩
  · rcases at_ a x e with ⟨rfl, rfl⟩ | ⟨_, e'⟩
    · exact h
    · exact ok.frz a x e'
  · obtain ⟨h1, h2⟩ := ok.cel n a m e1 e2
    refine ⟨h1.mono le fun _ q => q, fun hm => ?_⟩
    have ha : a ≠ p := fun z => by
      subst z
      cases m with
      | lst xs => obtain ⟨vs, e, _⟩ := h1; rw [h] at e; cases e; cases hs
      | ins c ns xs => obtain ⟨dx, fs, e, _⟩ := h1; rw [h] at e; cases e; cases hs
      | dct ks xs => obtain ⟨kvs, e, _⟩ := h1; rw [h] at e; cases e; cases hs
      | lsc xs => obtain ⟨vs, k, e, _⟩ := h1; rw [h] at e; cases e; cases hs
      | dead => exact absurd rfl hm
    show upd w.Φ p o a = none
    rw [upd_ne ha]
    exact h2 hm
  · obtain ⟨q1, q2, q3⟩ := ok.pro q hq
    have ha : q.1 ≠ p := fun z => by
      have := ok.psf q hq
      rw [z, h] at q1
      rw [← Option.some.inj q1, hs] at this
      cases this
    refine ⟨q1, ?_, q3⟩
    show upd w.Φ p o q.1 = none
    rw [upd_ne ha]; exact q2
  · rcases at_ a _ e with ⟨_, z⟩ | ⟨_, e'⟩
    · exact ho ps z.symm
    · exact ok.ntb a ps e'
/-- a code object is made or found: the tables alone change -/
theorem OkW.coded (ok : OkW Γ w μ H) (e : LamX.ExtN H H') (t : LamX.Tabs Γ.tb H') : OkW Γ w μ H' := by
  refine ⟨fun a x q => e a x (ok.frz a x q) fun ps z => ok.ntb a ps (by rw [← z]; exact q), ok.len, ok.nd, fun n a m e1 e2 => ?_, fun q hq => ?_, ok.ntb, ok.psf, t⟩
  · obtain ⟨h1, h2⟩ := ok.cel n a m e1 e2
    refine ⟨?_, h2⟩
    cases m with
    | lst xs => obtain ⟨vs, q, r⟩ := h1; exact ⟨vs, e _ _ q (fun ps z => by cases z), r⟩
    | ins c ns xs => obtain ⟨dx, fs, q, r⟩ := h1; exact ⟨dx, fs, e _ _ q (fun ps z => by cases z), r⟩
    | dct ks xs => obtain ⟨kvs, q, r⟩ := h1; exact ⟨kvs, e _ _ q (fun ps z => by cases z), r⟩
    | lsc xs => obtain ⟨vs, k, q, r⟩ := h1; exact ⟨vs, k, e _ _ q (fun ps z => by cases z), r⟩
    | dead => exact h1
  · obtain ⟨q1, q2, q3⟩ := ok.pro q hq
    refine ⟨e _ _ q1 fun ps z => ?_, q2, q3⟩
    have := ok.psf q hq
    rw [z] at this
    cases this
end
end KP
end

section
set_option maxRecDepth 100000
set_option maxHeartbeats 4000000
/-! KP3: what the operations compute is what they do. -/
namespace KP
open PySem PySem.Spec PyProof.Rows L2

section
variable {Γ : Glob} {w : Wd} {W : WX} {σ : St} {H : Hp} {μ : Mu} {v : V} {d : D} {vs : List V} {ds xs : List D}
theorem Rv.val (h : Rp Γ w.Φ v d) : Rv Γ w v d := .inr ⟨h.noCell, h⟩
theorem Rv.rp (h : Rv Γ w v d) (e : d.isCell = false) : Rp Γ w.Φ v d := by
  rcases h with ⟨n, a, e1, _⟩ | ⟨_, r⟩
  · subst e1; cases e
  · exact r
theorem Rv.int_ {i : Int} (h : Rv Γ w v (.int i)) : v = .int i := by cases h.rp rfl; rfl
theorem Rv.bl_ {i : Bool} (h : Rv Γ w v (.bl i)) : v = .bl i := by cases h.rp rfl; rfl
theorem Rv.str_ {i : Str} (h : Rv Γ w v (.str i)) : v = .str i := by cases h.rp rfl; rfl
theorem Rv.non_ (h : Rv Γ w v .non) : v = .non := by cases h.rp rfl; rfl
theorem Rv.tup_ (ok : OkW Γ w μ H) (h : Rv Γ w v (.tup xs)) : ∃ a vs, v = .ref a ∧ SqT Γ.K H a vs ∧ Rps Γ w.Φ vs xs ∧ xs.length ≤ LN := by
  cases h.rp rfl with
  | tup a b c d => exact ⟨_, _, rfl, seqT_same (fun _ _ q => ok.frz _ _ q) a, b, c⟩
theorem Rv.tupP_ (ok : OkW Γ w μ H) (h : Rv Γ w v (.tup xs)) : ∃ a vs, v = .ref a ∧ SqT Γ.K H a vs ∧ Rps Γ w.Φ vs xs ∧ xs.length ≤ LN ∧ Pl Γ.K H a := by
  cases h.rp rfl with
  | tup a b c d => exact ⟨_, _, rfl, seqT_same (fun _ _ q => ok.frz _ _ q) a, b, c, d.mono (fun _ _ q => ok.frz _ _ q)⟩
theorem Rv.scr_ {ns : List Int} (ok : OkW Γ w μ H) (h : Rv Γ w v (.scr ns)) : ∃ a, v = .ref a ∧ SqL Γ.K H a (ns.map V.int) := by
  cases h.rp rfl with
  | scr a => exact ⟨_, rfl, Same.seq (fun _ _ q => ok.frz _ _ q) a⟩
theorem Rv.lst_ (ok : OkW Γ w μ H) (h : Rv Γ w v d) (e : lstOf μ d = some xs) : ∃ a vs, v = .ref a ∧ H a = some (.lst vs) ∧ Rps Γ w.Φ vs xs := by
  rcases h with ⟨n, a, e1, e2, e3⟩ | ⟨_, r⟩
  · subst e1
    have e' : (match μ[n]? with
      | some (.lst xs) => some xs
      | _ => none) = some xs := e
    cases q : μ[n]? with
    | none => rw [q] at e'; cases e'
    | some m =>
      rw [q] at e'
      cases m with
      | lst ys =>
        have e4 : ys = xs := Option.some.inj e'
        subst e4
        obtain ⟨⟨vs, h1, h2⟩, _⟩ := ok.cel n a _ e2 q
        exact ⟨a, vs, e3, h1, h2⟩
      | _ => cases e'
  · cases r with
    | lst a b c =>
      have e4 : _ = xs := Option.some.inj (show some _ = some xs from e)
      subst e4
      exact ⟨_, _, rfl, ok.frz _ _ a, b⟩
    | _ => cases e
/-- a list or a tuple, as it is read -/
theorem Rv.seq_ (ok : OkW Γ w μ H) (h : Rv Γ w v d) (e : seqOf μ d = some xs) : ∃ a vs, v = .ref a ∧ (H a = some (.lst vs) ∨ SqT Γ.K H a vs) ∧ Rps Γ w.Φ vs xs := by
  cases d with
  | tup ys =>
    have e4 : ys = xs := Option.some.inj e
    subst e4
    obtain ⟨a, vs, h1, h2, h3, _⟩ := h.tup_ ok
    exact ⟨a, vs, h1, .inr h2, h3⟩
  | lst ys =>
    obtain ⟨a, vs, h1, h2, h3⟩ := h.lst_ (xs := xs) ok e
    exact ⟨a, vs, h1, .inl h2, h3⟩
  | cell n =>
    obtain ⟨a, vs, h1, h2, h3⟩ := h.lst_ (xs := xs) ok e
    exact ⟨a, vs, h1, .inl h2, h3⟩
  | _ => cases e
theorem Rps.ints {Φ : Hp} : ∀ {vs : List V} {ds : List D} {ns : List Int}, Rps Γ Φ vs ds → intsOf ds = some ns → vs = ns.map V.int
  | _, _, ns, .nil, e => by
    have e' : [] = ns := Option.some.inj e
    subst e'; rfl
  | _, _, ns, .cons (d := d) r t, e => by
    cases r with
    | int i =>
      have e' : (intsOf _).map (i :: ·) = some ns := e
      obtain ⟨ms, h1, h2⟩ := Option.map_eq_some_iff.mp e'
      subst h2
      rw [Rps.ints t h1]; rfl
    | _ => cases e
theorem Rps.bls {Φ : Hp} : ∀ {vs : List V} {ds : List D} {ns : List Bool}, Rps Γ Φ vs ds → blsOf ds = some ns → vs = ns.map V.bl
  | _, _, ns, .nil, e => by
    have e' : [] = ns := Option.some.inj e
    subst e'; rfl
  | _, _, ns, .cons (d := d) r t, e => by
    cases r with
    | bl i =>
      have e' : (blsOf _).map (i :: ·) = some ns := e
      obtain ⟨ms, h1, h2⟩ := Option.map_eq_some_iff.mp e'
      subst h2
      rw [Rps.bls t h1]; rfl
    | _ => cases e
theorem Rps.strs {Φ : Hp} : ∀ {vs : List V} {ds : List D} {ns : List Str}, Rps Γ Φ vs ds → strsOf ds = some ns → vs = ns.map V.str
  | _, _, ns, .nil, e => by
    have e' : [] = ns := Option.some.inj e
    subst e'; rfl
  | _, _, ns, .cons (d := d) r t, e => by
    cases r with
    | str i =>
      have e' : (strsOf _).map (i :: ·) = some ns := e
      obtain ⟨ms, h1, h2⟩ := Option.map_eq_some_iff.mp e'
      subst h2
      rw [Rps.strs t h1]; rfl
    | _ => cases e
/-! an end: a value; a new object -/
theorem postE.val {Q : VK} (p : postE Γ W σ w Q (.ok d μ)) (ok : OkW Γ w μ H) (r : Rv Γ w v d) : Q v H := p w v H w.refl ok r
theorem postE.vp {Q : VK} (p : postE Γ W σ w Q (.ok d μ)) (ok : OkW Γ w μ H) (r : Rp Γ w.Φ v d) : Q v H := p w v H w.refl ok (.val r)
theorem postE.new {Q : VK} {o : HO} (p : postE Γ W σ w Q (.ok d μ)) (ok : OkW Γ w μ H) (r : ∀ q, w.Φ q = none → Rp Γ (upd w.Φ q o) (.ref q) d) (ho : ∀ ps, o ≠ .tbl ps := by intro _ z; cases z) : ∀ q, H q = none → Q (.ref q) (upd H q o) := fun q hq =>
  p (w.add q o) (.ref q) _ (Wd.add_le (ok.fresh hq)) (ok.add hq ho) (.val (r q (ok.fresh hq)))
theorem postE.newLst {Q : VK} (p : postE Γ W σ w Q (.ok (.lst ds) μ)) (ok : OkW Γ w μ H) (r : Rps Γ w.Φ vs ds) (hz : ds.length ≤ LN) : ∀ q, H q = none → Q (.ref q) (upd H q (.lst vs)) :=
  p.new ok fun q hq => .lst upd_same (Rps.mono (fun b o e => by rw [upd_ne (ne_of_none e hq)]; exact e) _ _ r) hz
theorem postE.newTup {Q : VK} (p : postE Γ W σ w Q (.ok (.tup ds) μ)) (ok : OkW Γ w μ H) (r : Rps Γ w.Φ vs ds) (hz : ds.length ≤ LN) : ∀ q o, TO o → H q = none → Q (.ref q) (upd H q (.frz o (.tup vs))) := fun q o ht hq =>
  p.new ok (fun q hq => .tup (.inl (.inr ⟨o, upd_same⟩)) (Rps.mono (fun b o e => by rw [upd_ne (ne_of_none e hq)]; exact e) _ _ r) hz (.inl ⟨o, _, upd_same, ht⟩)) (by intro _ z; cases z) q hq
/-! the same, where the new list may be one that changes -/
theorem nw_stuck {Q : VK} {nw : Bool} (p : postE Γ W σ w Q (nwR nw .stuck)) : False := by cases nw <;> exact p
theorem nw_vp {Q : VK} {nw : Bool} (p : postE Γ W σ w Q (nwR nw (.ok d μ))) (ok : OkW Γ w μ H) (r : Rp Γ w.Φ v d) (hd : ∀ μ, thaw d μ = none) : Q v H := by
  cases nw with
  | false => exact postE.vp p ok r
  | true =>
    have p' : postE Γ W σ w Q (thawR d μ) := p
    unfold thawR at p'
    rw [hd] at p'
    exact p'.elim
theorem nw_val {Q : VK} {nw : Bool} (p : postE Γ W σ w Q (nwR nw (.ok d μ))) (ok : OkW Γ w μ H) (r : Rv Γ w v d) (hd : ∀ μ, thaw d μ = none) : Q v H := by
  cases nw with
  | false => exact postE.val p ok r
  | true =>
    have p' : postE Γ W σ w Q (thawR d μ) := p
    unfold thawR at p'
    rw [hd] at p'
    exact p'.elim
theorem postE.newCel {Q : VK} {m : M} {o : HO} (p : postE Γ W σ w Q (.ok (.cell μ.length) (μ ++ [m]))) (ok : OkW Γ w μ H) (r : ∀ q, H q = none → MOk Γ w (upd H q o) q m) : ∀ q, H q = none → Q (.ref q) (upd H q o) := fun q hq =>
  p (w.cel q) (.ref q) _ (w.cel_le q) (ok.addCel hq (r q hq)) (.inl ⟨μ.length, q, rfl, by
    show (w.θ ++ [q])[μ.length]? = some q
    rw [← ok.len, List.getElem?_append_right (Nat.le_refl _), Nat.sub_self]
    rfl, rfl⟩)
theorem nw_newLst {Q : VK} {nw : Bool} (p : postE Γ W σ w Q (nwR nw (.ok (.lst ds) μ))) (ok : OkW Γ w μ H) (r : Rps Γ w.Φ vs ds) (hz : ds.length ≤ LN) : ∀ q, H q = none → Q (.ref q) (upd H q (.lst vs)) := by
  cases nw with
  | false => exact postE.newLst p ok r hz
  | true => exact postE.newCel (m := .lst ds) p ok fun q hq => ⟨vs, upd_same, r⟩
theorem nw_newTup {Q : VK} {nw : Bool} (p : postE Γ W σ w Q (nwR nw (.ok (.tup ds) μ))) (ok : OkW Γ w μ H) (r : Rps Γ w.Φ vs ds) (hz : ds.length ≤ LN) : ∀ q o, TO o → H q = none → Q (.ref q) (upd H q (.frz o (.tup vs))) := by
  cases nw with
  | false => exact postE.newTup p ok r hz
  | true => exact (show False from p).elim
end
/-- an operation's reading: by what it computes of the values -/
def RO (Γ : Glob) (W : WX) (σ : St) (vs : List V) (f : List D → Mu → R D) (H : Hp) (Q : VK) : Prop := ∃ w μ ds, OkW Γ w μ H ∧ Rvs Γ w vs ds ∧ postE Γ W σ w Q (f ds μ)
theorem RD.ro {Γ : Glob} {W : WX} {σ : St} {vs : List V} {f : List D → Mu → R D} {H : Hp} {Q : VK} (h : RD Γ W vs (fun ds _ μ => f ds μ) σ H Q) : RO Γ W σ vs f H Q := by
  obtain ⟨w, ρ, μ, ds, g, rv, p⟩ := h
  exact ⟨w, μ, ds, g.ok, rv, p⟩
theorem Rvs.one {Γ : Glob} {w : Wd} {x : V} : ∀ {ds : List D}, Rvs Γ w [x] ds → ∃ d, ds = [d] ∧ Rv Γ w x d
  | [d], h => ⟨d, rfl, h.1⟩
  | [], h => h.elim
  | _ :: _ :: _, h => h.2.elim
theorem Rvs.two {Γ : Glob} {w : Wd} {x y : V} : ∀ {ds : List D}, Rvs Γ w [x, y] ds → ∃ d e, ds = [d, e] ∧ Rv Γ w x d ∧ Rv Γ w y e
  | [d, e], h => ⟨d, e, rfl, h.1, h.2.1⟩
  | [], h => h.elim
  | [_], h => h.2.elim
  | _ :: _ :: _ :: _, h => h.2.2.elim
section
variable {Γ : Glob} {X : Cx} {W : WX} {σ0 : St} {cx : Cxt}
/-- a two-place operation by what it computes -/
abbrev Op2 (Γ : Glob) (X : Cx) (W : WX) (σ0 : St) (cx : Cxt) (o : Op) (f : Value → Value → Sem Value) : Prop := OpR X f fun x y H Q => RO Γ W σ0 [x, y] (fun ds μ => opD cx o ds μ) H Q
abbrev Op2N (nw : Bool) (Γ : Glob) (X : Cx) (W : WX) (σ0 : St) (cx : Cxt) (o : Op) (f : Value → Value → Sem Value) : Prop := OpR X f fun x y H Q => RO Γ W σ0 [x, y] (fun ds μ => nwR nw (opD cx o ds μ)) H Q
theorem o_sub : Op2 Γ X W σ0 cx .sub (binaryOp .Sub) := by
  intro pins s σ H x y v u Q I rx ry hh
  obtain ⟨w, μ, ds, ok, rv, p⟩ := hh
  obtain ⟨a, b, rfl, ra, rb⟩ := rv.two
  cases a <;> cases b <;> first | exact (show False from p).elim | skip
  exact op_sub pins s σ H x y v u Q I rx ry ⟨_, _, ra.int_, rb.int_, postE.vp (W := W) p ok (.int _)⟩
theorem o_fdiv : Op2 Γ X W σ0 cx .fdiv (binaryOp .FloorDiv) := by
  intro pins s σ H x y v u Q I rx ry hh
  obtain ⟨w, μ, ds, ok, rv, p⟩ := hh
  obtain ⟨a, b, rfl, ra, rb⟩ := rv.two
  cases a <;> cases b <;> first | exact (show False from p).elim | skip
  rename_i i j
  have p' : postE Γ W σ0 w Q (if 0 < j ∧ j < 1073741824 then .ok (.int (i / j)) μ else .stuck) := p
  split at p'
  · rename_i hc
    exact op_fdiv pins s σ H x y v u Q I rx ry ⟨_, _, ra.int_, rb.int_, hc, p'.vp ok (.int _)⟩
  · exact p'.elim
theorem o_mod : Op2 Γ X W σ0 cx .mod (binaryOp .Mod) := by
  intro pins s σ H x y v u Q I rx ry hh
  obtain ⟨w, μ, ds, ok, rv, p⟩ := hh
  obtain ⟨a, b, rfl, ra, rb⟩ := rv.two
  cases a <;> cases b <;> first | exact (show False from p).elim | skip
  rename_i i j
  have p' : postE Γ W σ0 w Q (if 0 < j then .ok (.int (i % j)) μ else .stuck) := p
  split at p'
  · rename_i hc
    exact op_mod pins s σ H x y v u Q I rx ry ⟨_, _, ra.int_, rb.int_, hc, p'.vp ok (.int _)⟩
  · exact p'.elim
theorem o_pow : Op2 Γ X W σ0 cx .pow (binaryOp .Pow) := by
  intro pins s σ H x y v u Q I rx ry hh
  obtain ⟨w, μ, ds, ok, rv, p⟩ := hh
  obtain ⟨a, b, rfl, ra, rb⟩ := rv.two
  cases a <;> cases b <;> first | exact (show False from p).elim | skip
  rename_i i j
  have p' : postE Γ W σ0 w Q (if 0 ≤ j ∧ j ≤ 1000000 ∧ i.natAbs < 2 ^ 64 then .ok (.int (i ^ j.toNat)) μ else .stuck) := p
  split at p'
  · rename_i hc
    exact op_pow pins s σ H x y v u Q I rx ry ⟨_, _, ra.int_, rb.int_, hc, p'.vp ok (.int _)⟩
  · exact p'.elim
theorem o_ord {o : Op} {f : Value → Value → Sem Value} {g : Int → Int → Bool} (h : OpR X f (rI0 fun i j => .bl (g i j))) (hs : ∀ a b μ, opD cx o [a, b] μ = .stuck ∨ ∃ i j, a = .int i ∧ b = .int j ∧ opD cx o [a, b] μ = .ok (.bl (g i j)) μ) : Op2 Γ X W σ0 cx o f := by
  intro pins s σ H x y v u Q I rx ry hh
  obtain ⟨w, μ, ds, ok, rv, p⟩ := hh
  obtain ⟨a, b, rfl, ra, rb⟩ := rv.two
  dsimp only at p
  rcases hs a b μ with e | ⟨i, j, rfl, rfl, e⟩
  · rw [e] at p; exact p.elim
  · rw [e] at p
    exact h pins s σ H x y v u Q I rx ry ⟨_, _, ra.int_, rb.int_, p.vp ok (.bl _)⟩
theorem o_lt : Op2 Γ X W σ0 cx .lt (compareOp .Lt) := o_ord (g := fun i j => decide (i < j)) op_lt fun a b μ => by cases a <;> cases b <;> first | exact .inl rfl | exact .inr ⟨_, _, rfl, rfl, rfl⟩
theorem o_le : Op2 Γ X W σ0 cx .le (compareOp .LtE) := o_ord (g := fun i j => decide (i ≤ j)) op_le fun a b μ => by cases a <;> cases b <;> first | exact .inl rfl | exact .inr ⟨_, _, rfl, rfl, rfl⟩
theorem o_gt : Op2 Γ X W σ0 cx .gt (compareOp .Gt) := o_ord (g := fun i j => decide (j < i)) op_gt fun a b μ => by cases a <;> cases b <;> first | exact .inl rfl | exact .inr ⟨_, _, rfl, rfl, rfl⟩
theorem o_ge : Op2 Γ X W σ0 cx .ge (compareOp .GtE) := o_ord (g := fun i j => decide (j ≤ i)) op_ge fun a b μ => by cases a <;> cases b <;> first | exact .inl rfl | exact .inr ⟨_, _, rfl, rfl, rfl⟩
theorem lst_len {H : Hp} {pins : List (Addr × Obj)} {σ : St} {s : Shared} {a : Addr} {vs : List V} (I : Inv X pins σ H s) (h : H a = some (.lst vs)) : vs.length ≤ LN := (I.hok a _ h).1
theorem o_add {nw : Bool} (hK : Γ.K = X.K) : Op2N nw Γ X W σ0 cx .add (binaryOp .Add) := by
  intro pins s σ H x y v u Q I rx ry hh
  obtain ⟨w, μ, ds, ok, rv, p⟩ := hh
  obtain ⟨a, b, rfl, ra, rb⟩ := rv.two
  have p' : postE Γ W σ0 w Q (nwR nw (addD a b μ)) := p
  unfold addD at p'
  split at p'
  · exact op_add pins s σ H x y v u Q I rx ry ⟨_, _, ra.int_, rb.int_, nw_vp p' ok (.int _) fun _ => rfl⟩
  · split at p'
    · rename_i hc
      exact op_add_str pins s σ H x y v u Q I rx ry ⟨_, _, ra.str_, rb.str_, hc, nw_vp p' ok (.str _) fun _ => rfl⟩
    · exact (nw_stuck p').elim
  · split at p'
    · rename_i hc
      obtain ⟨p1, xs, e1, s1, r1, z1⟩ := ra.tup_ ok
      obtain ⟨p2, ys, e2, s2, r2, z2⟩ := rb.tup_ ok
      have l1 := r1.len
      have l2 := r2.len
      rw [hK] at s1 s2
      refine op_catP pins s σ H x y v u Q I rx ry ⟨p1, p2, xs, ys, e1, e2, s1, s2, by rw [l1, l2]; exact hc, fun z => ?_, fun _ z => ?_, fun _ _ => nw_newTup p' ok (r1.app r2) (by rw [List.length_append]; exact hc)⟩
      · have n1 := List.eq_nil_of_length_eq_zero (l := _) (by rw [← l1, z]; rfl : (List.length _) = 0)
        subst n1
        rw [← e2]
        exact nw_val p' ok (by simpa using rb) fun _ => rfl
      · have n1 := List.eq_nil_of_length_eq_zero (l := _) (by rw [← l2, z]; rfl : (List.length _) = 0)
        subst n1
        rw [← e1]
        exact nw_val p' ok (by simpa using ra) fun _ => rfl
    · exact (nw_stuck p').elim
  · split at p'
    · rename_i h1 h2
      split at p'
      · rename_i hc
        obtain ⟨p1, xs, e1, s1, r1⟩ := ra.lst_ ok h1
        obtain ⟨p2, ys, e2, s2, r2⟩ := rb.lst_ ok h2
        exact op_cat pins s σ H x y v u Q I rx ry ⟨p1, p2, xs, ys, e1, e2, s1, s2, by rw [r1.len, r2.len]; exact hc, nw_newLst p' ok (r1.app r2) (by rw [List.length_append]; exact hc)⟩
      · exact (nw_stuck p').elim
    · exact (nw_stuck p').elim
mutual
theorem dat_dp {w : Wd} {H : Hp} {μ : Mu} (ok : OkW Γ w μ H) : ∀ (d : D) (n : Nat) (v : V), dat d n = true → Rp Γ w.Φ v d → Dp Γ.K H v (toP d)
  | .non, _, _, _, h => by cases h; rw [toP]; exact .non
  | .bl _, _, _, _, h => by cases h; rw [toP]; exact .bl _
  | .int _, _, _, _, h => by cases h; rw [toP]; exact .int _
  | .str _, _, _, _, h => by cases h; rw [toP]; exact .str _
  | .lst xs, 0, _, e, _ => by rw [dat] at e; cases e
  | .lst xs, n + 1, _, e, h => by
    rw [dat] at e
    cases h with
    | lst a b c => rw [toP]; exact .lst (SqL.of (ok.frz _ _ a)) (datL_dp ok xs n _ e b)
  | .tup xs, 0, _, e, _ => by rw [dat] at e; cases e
  | .tup xs, n + 1, _, e, h => by
    rw [dat] at e
    cases h with
    | tup a b c d => rw [toP]; exact .tup (seqT_same (fun _ _ q => ok.frz _ _ q) a) (datL_dp ok xs n _ e b)
  | .dct _ _, n, _, e, _ => by cases n <;> (rw [dat] at e <;> first | cases e | (intros; contradiction))
  | .obj _ _ _, n, _, e, _ => by cases n <;> (rw [dat] at e <;> first | cases e | (intros; contradiction))
  | .exn _ _ _, n, _, e, _ => by cases n <;> (rw [dat] at e <;> first | cases e | (intros; contradiction))
  | .fn _, n, _, e, _ => by cases n <;> (rw [dat] at e <;> first | cases e | (intros; contradiction))
  | .scr _, n, _, e, _ => by cases n <;> (rw [dat] at e <;> first | cases e | (intros; contradiction))
  | .cell _, n, _, e, _ => by cases n <;> (rw [dat] at e <;> first | cases e | (intros; contradiction))
theorem datL_dp {w : Wd} {H : Hp} {μ : Mu} (ok : OkW Γ w μ H) : ∀ (ds : List D) (n : Nat) (vs : List V), datL ds n = true → Rps Γ w.Φ vs ds → DpAll Γ.K H vs (toPs ds)
  | [], _, _, _, h => by cases h; rw [toPs]; exact .nil
  | d :: r, n, _, e, h => by
    rw [datL, Bool.and_eq_true] at e
    cases h with
    | cons a b => rw [toPs]; exact .cons (dat_dp ok d n _ e.1 a) (datL_dp ok r n _ e.2 b)
end
mutual
theorem dat_shape : ∀ (d : D) (n : Nat), dat d n = true → (toP d).canLay0 = true ∧ (toP d).depth ≤ n
  | .non, _, _ => by simp [toP, PyData.canLay0, PyData.depth]
  | .bl _, _, _ => by simp [toP, PyData.canLay0, PyData.depth]
  | .int _, _, _ => by simp [toP, PyData.canLay0, PyData.depth]
  | .str _, _, h => by rw [dat] at h; simp [toP, PyData.canLay0, PyData.depth, h]
  | .lst xs, 0, e => by rw [dat] at e; cases e
  | .lst xs, n + 1, e => by
    rw [dat] at e
    have := datL_shape xs n e
    simp [toP, PyData.canLay0, PyData.depth, this]
  | .tup xs, 0, e => by rw [dat] at e; cases e
  | .tup xs, n + 1, e => by
    rw [dat] at e
    have := datL_shape xs n e
    simp [toP, PyData.canLay0, PyData.depth, this]
  | .dct _ _, n, e => by cases n <;> (rw [dat] at e <;> first | cases e | (intros; contradiction))
  | .obj _ _ _, n, e => by cases n <;> (rw [dat] at e <;> first | cases e | (intros; contradiction))
  | .exn _ _ _, n, e => by cases n <;> (rw [dat] at e <;> first | cases e | (intros; contradiction))
  | .fn _, n, e => by cases n <;> (rw [dat] at e <;> first | cases e | (intros; contradiction))
  | .scr _, n, e => by cases n <;> (rw [dat] at e <;> first | cases e | (intros; contradiction))
  | .cell _, n, e => by cases n <;> (rw [dat] at e <;> first | cases e | (intros; contradiction))
theorem datL_shape : ∀ (ds : List D) (n : Nat), datL ds n = true → PyData.canLayAll0 (toPs ds) = true ∧ PyData.depthAll (toPs ds) ≤ n
  | [], _, _ => by simp [toPs, PyData.canLayAll0, PyData.depthAll]
  | d :: r, n, e => by
    rw [datL, Bool.and_eq_true] at e
    have h1 := dat_shape d n e.1
    have h2 := datL_shape r n e.2
    simp only [toPs, PyData.canLayAll0, PyData.depthAll, h1.1, h2.1, Bool.and_self, true_and]
    omega
end
theorem dat_shaped {d : D} {n : Nat} (hn : n ≤ 64) (h : dat d n = true) : SeqAt.shaped (toP d) = true := by
  have := dat_shape d n h
  unfold SeqAt.shaped
  rw [this.1, Bool.true_and, decide_eq_true_eq]
  omega
theorem dat_no {d : D} {n : Nat} (h : dat d n = true) : (∃ b, d = .bl b) ∨ (∃ i, d = .int i) ∨ (∃ x, d = .str x) ∨ d = .non ∨ (∃ xs k, d = .lst xs ∧ n = k + 1 ∧ datL xs k = true) ∨ (∃ xs k, d = .tup xs ∧ n = k + 1 ∧ datL xs k = true) := by
  cases d with
  | non => exact .inr (.inr (.inr (.inl rfl)))
  | bl b => exact .inl ⟨b, rfl⟩
  | int i => exact .inr (.inl ⟨i, rfl⟩)
  | str x => exact .inr (.inr (.inl ⟨x, rfl⟩))
  | lst xs =>
    cases n with
    | zero => rw [dat] at h; cases h
    | succ k => rw [dat] at h; exact .inr (.inr (.inr (.inr (.inl ⟨xs, k, rfl, rfl, h⟩))))
  | tup xs =>
    cases n with
    | zero => rw [dat] at h; cases h
    | succ k => rw [dat] at h; exact .inr (.inr (.inr (.inr (.inr ⟨xs, k, rfl, rfl, h⟩))))
  | _ => cases n <;> (rw [dat] at h <;> first | (cases h; done) | (intros; contradiction))
mutual
theorem eqv_toP : ∀ (a b : D) (n m : Nat), dat a n = true → dat b m = true → PyData.eqv (toP a) (toP b) = eqv a b
  | .lst xs, b, n, m, ha, hb => by
    cases n with
    | zero => rw [dat] at ha; cases ha
    | succ n =>
      rw [dat] at ha
      rcases dat_no hb with ⟨_, rfl⟩ | ⟨_, rfl⟩ | ⟨_, rfl⟩ | rfl | ⟨ys, k, rfl, rfl, h⟩ | ⟨ys, k, rfl, rfl, h⟩
      all_goals first
        | (simp [toP, PyData.eqv, eqv]; done)
        | (simp only [toP, PyData.eqv, eqv]; exact eqvL_toP xs ys _ _ ha h)
  | .tup xs, b, n, m, ha, hb => by
    cases n with
    | zero => rw [dat] at ha; cases ha
    | succ n =>
      rw [dat] at ha
      rcases dat_no hb with ⟨_, rfl⟩ | ⟨_, rfl⟩ | ⟨_, rfl⟩ | rfl | ⟨ys, k, rfl, rfl, h⟩ | ⟨ys, k, rfl, rfl, h⟩
      all_goals first
        | (simp [toP, PyData.eqv, eqv]; done)
        | (simp only [toP, PyData.eqv, eqv]; exact eqvL_toP xs ys _ _ ha h)
  | .non, b, n, m, ha, hb => by
    rcases dat_no hb with ⟨_, rfl⟩ | ⟨_, rfl⟩ | ⟨_, rfl⟩ | rfl | ⟨ys, k, rfl, rfl, h⟩ | ⟨ys, k, rfl, rfl, h⟩ <;> simp [toP, PyData.eqv, eqv, Bool.beq_eq_decide_eq]
  | .bl _, b, n, m, ha, hb => by
    rcases dat_no hb with ⟨_, rfl⟩ | ⟨_, rfl⟩ | ⟨_, rfl⟩ | rfl | ⟨ys, k, rfl, rfl, h⟩ | ⟨ys, k, rfl, rfl, h⟩ <;> simp [toP, PyData.eqv, eqv, Bool.beq_eq_decide_eq]
  | .int _, b, n, m, ha, hb => by
    rcases dat_no hb with ⟨_, rfl⟩ | ⟨_, rfl⟩ | ⟨_, rfl⟩ | rfl | ⟨ys, k, rfl, rfl, h⟩ | ⟨ys, k, rfl, rfl, h⟩ <;> simp [toP, PyData.eqv, eqv, Bool.beq_eq_decide_eq]
  | .str _, b, n, m, ha, hb => by
    rcases dat_no hb with ⟨_, rfl⟩ | ⟨_, rfl⟩ | ⟨_, rfl⟩ | rfl | ⟨ys, k, rfl, rfl, h⟩ | ⟨ys, k, rfl, rfl, h⟩ <;> simp [toP, PyData.eqv, eqv, Bool.beq_eq_decide_eq]
  | .dct _ _, b, n, m, ha, hb => by rcases dat_no ha with ⟨_, q⟩ | ⟨_, q⟩ | ⟨_, q⟩ | q | ⟨_, _, q, _⟩ | ⟨_, _, q, _⟩ <;> cases q
  | .obj _ _ _, b, n, m, ha, hb => by rcases dat_no ha with ⟨_, q⟩ | ⟨_, q⟩ | ⟨_, q⟩ | q | ⟨_, _, q, _⟩ | ⟨_, _, q, _⟩ <;> cases q
  | .exn _ _ _, b, n, m, ha, hb => by rcases dat_no ha with ⟨_, q⟩ | ⟨_, q⟩ | ⟨_, q⟩ | q | ⟨_, _, q, _⟩ | ⟨_, _, q, _⟩ <;> cases q
  | .fn _, b, n, m, ha, hb => by rcases dat_no ha with ⟨_, q⟩ | ⟨_, q⟩ | ⟨_, q⟩ | q | ⟨_, _, q, _⟩ | ⟨_, _, q, _⟩ <;> cases q
  | .scr _, b, n, m, ha, hb => by rcases dat_no ha with ⟨_, q⟩ | ⟨_, q⟩ | ⟨_, q⟩ | q | ⟨_, _, q, _⟩ | ⟨_, _, q, _⟩ <;> cases q
  | .cell _, b, n, m, ha, hb => by rcases dat_no ha with ⟨_, q⟩ | ⟨_, q⟩ | ⟨_, q⟩ | q | ⟨_, _, q, _⟩ | ⟨_, _, q, _⟩ <;> cases q
theorem eqvL_toP : ∀ (a b : List D) (n m : Nat), datL a n = true → datL b m = true → PyData.eqvAll (toPs a) (toPs b) = eqvL a b
  | [], [], _, _, _, _ => by simp [toPs, PyData.eqvAll, eqvL]
  | [], _ :: _, _, _, _, _ => by simp [toPs, PyData.eqvAll, eqvL]
  | _ :: _, [], _, _, _, _ => by simp [toPs, PyData.eqvAll, eqvL]
  | a :: r, b :: s, n, m, ha, hb => by
    rw [datL, Bool.and_eq_true] at ha hb
    simp only [toPs, PyData.eqvAll, eqvL]
    rw [eqv_toP a b n m ha.1 hb.1, eqvL_toP r s n m ha.2 hb.2]
end
theorem Rv.nrm_ {w : Wd} {μ : Mu} {H : Hp} {v : V} {d : D} (ok : OkW Γ w μ H) (h : Rv Γ w v d) {n : Nat} (e : dat (nrm μ d) n = true) : Dp Γ.K H v (toP (nrm μ d)) := by
  rcases h with ⟨k, a, rfl, e2, e3⟩ | ⟨e1, r⟩
  · have e' := e
    unfold nrm at e' ⊢
    cases q : μ[k]? with
    | none =>
      simp only [q] at e'
      rcases dat_no e' with ⟨_, q⟩ | ⟨_, q⟩ | ⟨_, q⟩ | q | ⟨_, _, q, _⟩ | ⟨_, _, q, _⟩ <;> cases q
    | some m =>
      cases m with
      | lst xs =>
        simp only [q] at e' ⊢
        cases n with
        | zero => rw [dat] at e'; cases e'
        | succ n =>
          rw [dat] at e'
          obtain ⟨⟨vs, h1, h2⟩, _⟩ := ok.cel k a _ e2 q
          rw [toP, e3]
          exact .lst (SqL.of h1) (datL_dp ok xs n _ e' h2)
      | _ =>
        simp only [q] at e'
        rcases dat_no e' with ⟨_, q⟩ | ⟨_, q⟩ | ⟨_, q⟩ | q | ⟨_, _, q, _⟩ | ⟨_, _, q, _⟩ <;> cases q
  · have e3 : nrm μ d = d := by
      cases d <;> first | rfl | cases e1
    rw [e3] at e ⊢
    exact dat_dp ok d n v e r
/-- == and != of plain data -/
theorem eq_dat {w : Wd} {μ : Mu} {H : Hp} {x y : V} {a b : D} (ok : OkW Γ w μ H) (ra : Rv Γ w x a) (rb : Rv Γ w y b) (ea : dat (nrm μ a) 60 = true) (eb : dat (nrm μ b) 60 = true) :
    ∃ d e, Dp Γ.K H x d ∧ Dp Γ.K H y e ∧ SeqAt.shaped d = true ∧ SeqAt.shaped e = true ∧ PyData.eqv d e = eqv (nrm μ a) (nrm μ b) :=
  ⟨_, _, ra.nrm_ ok ea, rb.nrm_ ok eb, dat_shaped (by omega) ea, dat_shaped (by omega) eb, eqv_toP _ _ _ _ ea eb⟩
end
end KP
end

section
set_option maxRecDepth 100000
set_option maxHeartbeats 4000000
/-! KP4: further operations, calls of what is built in. -/
namespace KP
open PySem PySem.Spec PyProof.Rows L2
section
variable {Γ : Glob} {X : Cx} {W : WX} {σ0 : St} {cx : Cxt}
abbrev Op1 (Γ : Glob) (X : Cx) (W : WX) (σ0 : St) (cx : Cxt) (o : Op) (f : Value → Sem Value) : Prop := UnR X f fun x H Q => RO Γ W σ0 [x] (fun ds μ => opD cx o ds μ) H Q
abbrev OpC (Γ : Glob) (X : Cx) (W : WX) (σ0 : St) (cx : Cxt) (o : Op) (f : Value) : Prop := CallR X f fun xs H Q => RO Γ W σ0 xs (fun ds μ => opD cx o ds μ) H Q
abbrev OpCN (nw : Bool) (Γ : Glob) (X : Cx) (W : WX) (σ0 : St) (cx : Cxt) (o : Op) (f : Value) : Prop := CallR X f fun xs H Q => RO Γ W σ0 xs (fun ds μ => nwR nw (opD cx o ds μ)) H Q
abbrev OpMN (nw : Bool) (Γ : Glob) (X : Cx) (W : WX) (σ0 : St) (cx : Cxt) (o : Op) (id : String) : Prop := MtR X id fun x xs H Q => RO Γ W σ0 (x :: xs) (fun ds μ => nwR nw (opD cx o ds μ)) H Q
abbrev OpM (Γ : Glob) (X : Cx) (W : WX) (σ0 : St) (cx : Cxt) (o : Op) (id : String) : Prop := MtR X id fun x xs H Q => RO Γ W σ0 (x :: xs) (fun ds μ => opD cx o ds μ) H Q
theorem o_neg : Op1 Γ X W σ0 cx .neg (unaryOp .USub) := by
  intro pins s σ H x v Q I rx hh
  obtain ⟨w, μ, ds, ok, rv, p⟩ := hh
  obtain ⟨a, rfl, ra⟩ := rv.one
  cases a <;> first | exact (show False from p).elim | skip
  exact un_neg pins s σ H x v Q I rx ⟨_, ra.int_, postE.vp (W := W) p ok (.int _)⟩
/-! == and != -/
/-- data alone are compared here; instances by their own method: later -/
def datTwo (μ : Mu) (a b : D) : Bool := dat (nrm μ a) 60 && dat (nrm μ b) 60
theorem eqD_dat {a b : D} {μ : Mu} (h : datTwo μ a b = true) : eqD cx a b μ = .ok (eqv (nrm μ a) (nrm μ b)) μ := by
  unfold datTwo at h
  unfold eqD
  split
  · rename_i h1
    rw [h1] at h
    have h3 := (Bool.and_eq_true_iff.mp h).1
    rcases dat_no h3 with ⟨_, q⟩ | ⟨_, q⟩ | ⟨_, q⟩ | q | ⟨_, _, q, _⟩ | ⟨_, _, q, _⟩ <;> cases q
  · rw [h]
theorem _root_.L2.Room.units65 {A : Around} {k : Nat} (hr : Room k A) : A.units + 65 < cLine := by have := hr.un; omega
theorem o_eq_dat {k : Nat} (hK : Γ.K = X.K) (hr : Room k X.A) : OpR X (compareOp .Eq) fun x y H Q => ∃ w μ a b, OkW Γ w μ H ∧ Rv Γ w x a ∧ Rv Γ w y b ∧ datTwo μ a b = true ∧ postE Γ W σ0 w Q (.ok (.bl (eqv (nrm μ a) (nrm μ b))) μ) := by
  intro pins s σ H x y v u Q I rx ry hh
  obtain ⟨w, μ, a, b, ok, ra, rb, hd, p⟩ := hh
  obtain ⟨h1, h2⟩ := Bool.and_eq_true_iff.mp hd
  obtain ⟨d, e, q1, q2, q3, q4, q5⟩ := eq_dat ok ra rb h1 h2
  rw [hK] at q1 q2
  rw [← q5] at p
  exact op_eqD hr.units pins s σ H x y v u Q I rx ry ⟨d, e, q1, q2, q3, q4, p.vp ok (.bl _)⟩
theorem o_ne_dat {k : Nat} (hK : Γ.K = X.K) (hr : Room k X.A) : OpR X (compareOp .NotEq) fun x y H Q => ∃ w μ a b, OkW Γ w μ H ∧ Rv Γ w x a ∧ Rv Γ w y b ∧ datTwo μ a b = true ∧ postE Γ W σ0 w Q (.ok (.bl (!eqv (nrm μ a) (nrm μ b))) μ) := by
  intro pins s σ H x y v u Q I rx ry hh
  obtain ⟨w, μ, a, b, ok, ra, rb, hd, p⟩ := hh
  obtain ⟨h1, h2⟩ := Bool.and_eq_true_iff.mp hd
  obtain ⟨d, e, q1, q2, q3, q4, q5⟩ := eq_dat ok ra rb h1 h2
  rw [hK] at q1 q2
  rw [← q5] at p
  exact op_neD hr.units pins s σ H x y v u Q I rx ry ⟨d, e, q1, q2, q3, q4, p.vp ok (.bl _)⟩
/-! is None -/
theorem rv_non {w : Wd} {v : V} {d : D} (h : Rv Γ w v d) : decide (v = .non) = decide (d = .non) := by
  rcases h with ⟨n, a, rfl, _, rfl⟩ | ⟨_, r⟩
  · rfl
  · cases r <;> first | rfl | simp
theorem o_isN : OpR X (compareOp .Is) fun x y H Q => y = .non ∧ RO Γ W σ0 [x] (fun ds μ => opD cx .isN ds μ) H Q := by
  intro pins s σ H x y v u Q I rx ry hh
  obtain ⟨ey, w, μ, ds, ok, rv, p⟩ := hh
  obtain ⟨a, rfl, ra⟩ := rv.one
  refine op_isN pins s σ H x y v u Q I rx ry ⟨ey, ?_⟩
  rw [rv_non ra]
  exact postE.vp (W := W) p ok (.bl _)
theorem o_notN : OpR X (compareOp .IsNot) fun x y H Q => y = .non ∧ RO Γ W σ0 [x] (fun ds μ => opD cx .notN ds μ) H Q := by
  intro pins s σ H x y v u Q I rx ry hh
  obtain ⟨ey, w, μ, ds, ok, rv, p⟩ := hh
  obtain ⟨a, rfl, ra⟩ := rv.one
  refine op_notN pins s σ H x y v u Q I rx ry ⟨ey, ?_⟩
  rw [rv_non ra]
  exact postE.vp (W := W) p ok (.bl _)
/-! in -/
theorem any_toPs (d : D) (n : Nat) (hd : dat d n = true) : ∀ (xs : List D) (m : Nat), datL xs m = true → ((toPs xs).any fun z => PyData.eqv z (toP d)) = xs.any fun x => eqv x d
  | [], _, _ => by simp [toPs]
  | x :: r, m, h => by
    rw [datL, Bool.and_eq_true] at h
    simp only [toPs, List.any_cons]
    rw [eqv_toP x d m n h.1 hd, any_toPs d n hd r m h.2]
theorem strSeq {μ : Mu} {d : D} {xs : List D} (h : seqOf μ d = some xs) : (∃ z, d = .tup z ∧ z = xs) ∨ lstOf μ d = some xs := by
  cases d with
  | tup z => exact .inl ⟨z, rfl, Option.some.inj h⟩
  | lst z => exact .inr h
  | cell n => exact .inr h
  | _ => cases h
theorem room_dat {k n : Nat} {d : D} {ds : List PyData} (hr : Room k X.A) (h : dat d n = true) (hn : n ≤ 60) : X.A.units + 1 + min (PyData.depthAll ds) (toP d).depth < cLine := by
  have h1 := (dat_shape d n h).2
  have h2 := hr.un
  omega
theorem one_sign {x : Str} (h : x.cps.size = 1) : x = ⟨#[x.cps.getD 0 0]⟩ := by
  obtain ⟨⟨l⟩⟩ := x
  match l, h with
  | [c], _ => rfl
/-- what a dict holds -/
theorem Rv.dc_ {w : Wd} {μ : Mu} {H : Hp} {v : V} {d : D} {ks : List Key} {xs : List D} (r : Rv Γ w v d) (ok : OkW Γ w μ H) (h : dcOf μ d = some (ks, xs)) : ∃ p kvs, v = .ref p ∧ H p = some (.dK kvs) ∧ kvs.map (·.1) = ks ∧ Rps Γ w.Φ (kvs.map (·.2)) xs := by
  rcases r with ⟨n, a, rfl, e2, e3⟩ | ⟨hc, r⟩
  · unfold dcOf at h
    dsimp only at h
    split at h
    · rename_i ks' xs' hm
      cases h
      obtain ⟨⟨kvs, q1, q2, q3⟩, _⟩ := ok.cel n a _ e2 hm
      exact ⟨a, kvs, e3, q1, q2, q3⟩
    · cases h
  · cases d <;> first | (cases h; done) | skip
    · cases h
      cases r with
      | dct e1 e2 => exact ⟨_, _, rfl, ok.frz _ _ e1, rfl, e2⟩
    · cases hc
theorem Rv.lsc_ {w : Wd} {μ : Mu} {H : Hp} {v : V} {d : D} {xs : List D} (r : Rv Γ w v d) (ok : OkW Γ w μ H) (h : lscOf μ d = some xs) : ∃ p vs, v = .ref p ∧ H p = some (.lst vs) ∧ Rvs Γ w vs xs := by
  rcases r with ⟨n, a, rfl, e2, e3⟩ | ⟨hc, r⟩
  · unfold lscOf at h
    dsimp only at h
    split at h
    · rename_i xs' hm
      cases h
      obtain ⟨⟨vs, k, q1, q2, q3⟩, _⟩ := ok.cel n a _ e2 hm
      exact ⟨a, vs, e3, q1, q3.monf (w.cut_lf k)⟩
    · cases h
  · cases d <;> first | (cases h; done) | skip
    cases hc
theorem Rvs.at_ {w : Wd} {vs : List V} {ds : List D} {d : D} {i : Int} {j : Nat} (r : Rvs Γ w vs ds) (h : ixOf ds.length i = some j) (e : ds[j]? = some d) : ∃ v, atI vs i = some v ∧ Rv Γ w v d := by
  obtain ⟨v, h1, h2⟩ := r.get e
  refine ⟨v, ?_, h2⟩
  unfold atI
  rw [r.len, show ixN ds.length i = some j from h]
  exact h1
theorem Rv.key_ {w : Wd} {v : V} {d : D} {k : Key} (r : Rv Γ w v d) (h : keyOf d = some k) : v = kV k := by
  cases d <;> first | (cases h; done) | skip
  · cases h; rw [r.int_]; rfl
  · cases h; rw [r.str_]; rfl
theorem valV_in (kvs : List (Key × V)) (k : Key) : (valV kvs k).isSome = hasK (kvs.map (·.1)) k := by
  rw [← valV_any]
  unfold hasK
  rw [List.any_map]
  rfl
theorem dget_of {Φ : Hp} : ∀ {kvs : List (Key × V)} {xs : List D} {k : Key} {d : D}, Rps Γ Φ (kvs.map (·.2)) xs → dget (kvs.map (·.1)) xs k = some d → ∃ v, valV kvs k = some v ∧ Rp Γ Φ v d
  | [], xs, k, d, _, h => by cases xs <;> cases h
  | p :: r, [], k, d, _, h => by cases h
  | p :: r, x :: xs, k, d, hr, h => by
    rw [List.map_cons] at hr h
    cases hr with
    | cons a b =>
      unfold dget at h
      by_cases e : p.1 = k
      · rw [if_pos e] at h
        cases h
        exact ⟨p.2, valV_pos e, a⟩
      · rw [if_neg e] at h
        rw [valV_neg e]
        exact dget_of b h
theorem dput_K {kvs : List (Key × V)} {k : Key} {v : V} : (putK kvs k v).map (·.1) = dputK (kvs.map (·.1)) k := by
  unfold putK dputK
  rw [(valV_any k kvs).trans (valV_in kvs k)]
  by_cases h : hasK (kvs.map (·.1)) k = true
  · rw [if_pos h, if_pos h, List.map_map]
    refine List.map_congr_left fun p _ => ?_
    simp only [Function.comp_apply]
    split <;> rfl
  · rw [if_neg h, if_neg h]
    simp
theorem dput_R {Φ : Hp} {kvs : List (Key × V)} {xs : List D} {k : Key} {v : V} {d : D} (hr : Rps Γ Φ (kvs.map (·.2)) xs) (hd : Rp Γ Φ v d) : Rps Γ Φ ((putK kvs k v).map (·.2)) (dput (kvs.map (·.1)) xs k d) := by
  unfold putK dput
  rw [(valV_any k kvs).trans (valV_in kvs k)]
  by_cases h : hasK (kvs.map (·.1)) k = true
  · rw [if_pos h, if_pos h]
    clear h
    induction kvs generalizing xs with
    | nil => cases hr; exact .nil
    | cons p r ih =>
      rw [List.map_cons] at hr
      cases hr with
      | cons a b =>
        simp only [List.map_cons, List.zip_cons_cons]
        refine .cons ?_ (ih b)
        split
        · exact hd
        · exact a
  · rw [if_neg h, if_neg h, List.map_append]
    exact hr.app (.cons hd .nil)
theorem ix_dict : IxR X fun x y H Q => ∃ a v, x = .ref a ∧ (∃ kvs k, H a = some (.dK kvs) ∧ y = kV k ∧ valV kvs k = some v) ∧ Q v H := by
  intro value slice pins s σ H x y v u Q I rx ry h hs
  obtain ⟨a, z, rfl, ⟨kvs, k, e, rfl, l⟩, q⟩ := h
  obtain rfl : v = Value.ref a := rx
  have g : DGet H a (kV k) (some z) := by rw [← l]; exact DGet.k e
  obtain ⟨zz, hd, vs, rel, dd⟩ := dk_of I.hok e
  obtain ⟨w', hw, rw'⟩ := RelO.some_of (v := z) (o := valueAt vs k) (by rw [← l]; exact rel.val k)
  exact tail_any (dict_typeIs I g) PySem.F.slot_dict_getitem.lookup (wpAny_getItem_of (kV_is ry) dd.mapOf hw ⟨z, H, I.tok _, rw', q⟩) hs
theorem o_in {k : Nat} (hK : Γ.K = X.K) (hr : Room k X.A) : OpR X (compareOp .In) fun x y H Q => ∃ w μ a b r, OkW Γ w μ H ∧ Rv Γ w x a ∧ Rv Γ w y b ∧ innD a b μ = .ok r μ ∧ Q (.bl r) H := by
  intro pins s σ H x y v u Q I rx ry hh
  obtain ⟨w, μ, a, b, r, ok, ra, rb, hi, q⟩ := hh
  unfold innD at hi
  split at hi
  · rename_i z
    split at hi
    · rename_i c
      split at hi
      · rename_i hc
        rw [one_sign hc] at ra
        have er : decide (c.cps.getD 0 0 ∈ z.cps.toList) = r := by injection hi
        rw [← er] at q
        exact op_in_sign pins s σ H x y v u Q I rx ry ⟨c.cps.getD 0 0, z, ra.str_, rb.str_, q⟩
      · cases hi
    · cases hi
  · split at hi
    · rename_i ks xs hdc
      split at hi
      · rename_i kk hk
        obtain ⟨p, kvs, rfl, e1, e2, e3⟩ := rb.dc_ ok hdc
        have er : hasK ks kk = r := by injection hi
        have g := DGet.k (k := kk) e1
        rw [← er, ← e2, ← valV_in] at q
        obtain rfl : u = Value.ref p := ry
        exact d_in (by have := hr.un; omega) I g (by rw [← ra.key_ hk]; exact rx) fun s3 I3 => ⟨.bl ((valV kvs kk).isSome), H, I3, rfl, q⟩
      · cases hi
    · split at hi
      · rename_i xs hs
        split at hi
        · rename_i hd
          obtain ⟨h1, h2⟩ := Bool.and_eq_true_iff.mp hd
          have er : (xs.any fun x => eqv x (nrm μ a)) = r := by injection hi
          rw [← er, ← any_toPs _ _ h1 xs _ h2] at q
          have qa := ra.nrm_ ok h1
          rw [hK] at qa
          obtain ⟨as, r1⟩ := Dp.reads I _ x v qa rx
          have cl := (datL_shape xs _ h2).1
          have cd := (dat_shape _ _ h1).1
          rcases strSeq hs with ⟨z, rfl, rfl⟩ | hl
          · obtain ⟨p, vs, e, hT, hR, _⟩ := rb.tup_ ok
            have dp : Dp Γ.K H y (.tuple (toPs z)) := by rw [e]; exact .tup hT (datL_dp ok z _ _ h2 hR)
            rw [hK] at dp
            obtain ⟨bs, r2⟩ := Dp.reads I _ y u dp ry
            exact SeqAt.in_tuple_reads r2 r1 cl cd (room_dat hr h1 (by omega)) ⟨.bl _, H, I, rfl, q⟩
          · obtain ⟨p, vs, e, hT, hR⟩ := rb.lst_ ok hl
            have dp : Dp Γ.K H y (.list (toPs xs)) := by rw [e]; exact .lst (SqL.of hT) (datL_dp ok xs _ _ h2 hR)
            rw [hK] at dp
            obtain ⟨bs, r2⟩ := Dp.reads I _ y u dp ry
            exact SeqAt.in_list_reads r2 r1 cl cd (room_dat hr h1 (by omega)) ⟨.bl _, H, I, rfl, q⟩
        · cases hi
      · cases hi
theorem o_notIn {k : Nat} (hK : Γ.K = X.K) (hr : Room k X.A) : OpR X (compareOp .NotIn) fun x y H Q => ∃ w μ a b r, OkW Γ w μ H ∧ Rv Γ w x a ∧ Rv Γ w y b ∧ innD a b μ = .ok r μ ∧ Q (.bl (!r)) H := by
  intro pins s σ H x y v u Q I rx ry hh
  obtain ⟨w, μ, a, b, r, ok, ra, rb, hi, q⟩ := hh
  unfold innD at hi
  split at hi
  · rename_i z
    split at hi
    · rename_i c
      split at hi
      · rename_i hc
        rw [one_sign hc] at ra
        have er : decide (c.cps.getD 0 0 ∈ z.cps.toList) = r := by injection hi
        rw [← er] at q
        exact op_notIn_sign pins s σ H x y v u Q I rx ry ⟨c.cps.getD 0 0, z, ra.str_, rb.str_, q⟩
      · cases hi
    · cases hi
  · split at hi
    · rename_i ks xs hdc
      split at hi
      · rename_i kk hk
        obtain ⟨p, kvs, rfl, e1, e2, e3⟩ := rb.dc_ ok hdc
        have er : hasK ks kk = r := by injection hi
        have g := DGet.k (k := kk) e1
        rw [← er, ← e2, ← valV_in] at q
        obtain rfl : u = Value.ref p := ry
        exact d_notIn (by have := hr.un; omega) I g (by rw [← ra.key_ hk]; exact rx) fun s3 I3 => ⟨.bl (!(valV kvs kk).isSome), H, I3, rfl, q⟩
      · cases hi
    · split at hi
      · rename_i xs hs
        split at hi
        · rename_i hd
          obtain ⟨h1, h2⟩ := Bool.and_eq_true_iff.mp hd
          have er : (xs.any fun x => eqv x (nrm μ a)) = r := by injection hi
          rw [← er, ← any_toPs _ _ h1 xs _ h2] at q
          have qa := ra.nrm_ ok h1
          rw [hK] at qa
          obtain ⟨as, r1⟩ := Dp.reads I _ x v qa rx
          have cl := (datL_shape xs _ h2).1
          have cd := (dat_shape _ _ h1).1
          rcases strSeq hs with ⟨z, rfl, rfl⟩ | hl
          · obtain ⟨p, vs, e, hT, hR, _⟩ := rb.tup_ ok
            have dp : Dp Γ.K H y (.tuple (toPs z)) := by rw [e]; exact .tup hT (datL_dp ok z _ _ h2 hR)
            rw [hK] at dp
            obtain ⟨bs, r2⟩ := Dp.reads I _ y u dp ry
            exact SeqAt.notIn_tuple_reads r2 r1 cl cd (room_dat hr h1 (by omega)) ⟨.bl _, H, I, rfl, q⟩
          · obtain ⟨p, vs, e, hT, hR⟩ := rb.lst_ ok hl
            have dp : Dp Γ.K H y (.list (toPs xs)) := by rw [e]; exact .lst (SqL.of hT) (datL_dp ok xs _ _ h2 hR)
            rw [hK] at dp
            obtain ⟨bs, r2⟩ := Dp.reads I _ y u dp ry
            exact SeqAt.notIn_list_reads r2 r1 cl cd (room_dat hr h1 (by omega)) ⟨.bl _, H, I, rfl, q⟩
        · cases hi
      · cases hi
/-! subscripts, slices -/
theorem Rps.at_ {Φ : Hp} {vs : List V} {ds : List D} {d : D} {i : Int} {j : Nat} (r : Rps Γ Φ vs ds) (h : ixOf ds.length i = some j) (e : ds[j]? = some d) : ∃ v, atI vs i = some v ∧ Rp Γ Φ v d := by
  obtain ⟨v, h1, h2⟩ := r.get e
  refine ⟨v, ?_, h2⟩
  unfold atI
  rw [r.len, show ixN ds.length i = some j from h]
  exact h1
theorem o_idx (hK : Γ.K = X.K) : IxR X fun x y H Q => RO Γ W σ0 [x, y] (fun ds μ => opD cx .idx ds μ) H Q := by
  intro value slice pins s σ H x y v u Q I rx ry hh hs
  obtain ⟨w, μ, ds, ok, rv, p⟩ := hh
  obtain ⟨a, b, rfl, ra, rb⟩ := rv.two
  have p' : postE Γ W σ0 w Q (idxD a b μ) := p
  unfold idxD at p'
  split at p'
  · rename_i z i
    split at p'
    · rename_i j hj
      split at p'
      · rename_i c hc
        split at p'
        · rename_i hz
          refine ix_str value slice pins s σ H x y v u Q I rx ry ⟨z, i, c, ra.str_, rb.int_, hz, ?_, p'.vp ok (.str _)⟩ hs
          unfold atI
          rw [show z.cps.toList.length = z.length from by simp [Str.length]]
          rw [show ixN z.length i = some j from hj]
          show z.cps.toList[j]? = some c
          rw [Array.getElem?_toList]
          exact hc
        · exact p'.elim
      · exact p'.elim
    · exact p'.elim
  · split at p'
    · rename_i ks xs hdc
      split at p'
      · rename_i kk hk
        split at p'
        · rename_i d hd
          obtain ⟨q, kvs, rfl, e1, e2, e3⟩ := ra.dc_ ok hdc
          subst e2
          obtain ⟨z, h1, h2⟩ := dget_of e3 hd
          exact ix_dict value slice pins s σ H _ y v u Q I rx ry ⟨q, z, rfl, ⟨kvs, kk, e1, rb.key_ hk, h1⟩, p'.vp ok h2⟩ hs
        · exact p'.elim
      · exact p'.elim
    · split at p'
      · rename_i i hns
        split at p'
        · rename_i xs hsq
          split at p'
          · rename_i j hj
            split at p'
            · rename_i d hd
              obtain ⟨q, vs, e, hT, hR⟩ := ra.seq_ ok hsq
              obtain ⟨y', h1, h2⟩ := hR.at_ hj hd
              rcases hT with hT | hT
              · exact ix_list value slice pins s σ H x y v u Q I rx ry ⟨q, vs, i, y', e, rb.int_, SqL.of hT, h1, p'.vp ok h2⟩ hs
              · rw [hK] at hT
                exact ix_tup value slice pins s σ H x y v u Q I rx ry ⟨q, vs, i, y', e, rb.int_, hT, h1, p'.vp ok h2⟩ hs
            · exact p'.elim
          · exact p'.elim
        · split at p'
          · rename_i xs hsq
            split at p'
            · rename_i j hj
              split at p'
              · rename_i d hd
                obtain ⟨q, vs, e, hT, hR⟩ := ra.lsc_ ok hsq
                obtain ⟨y', h1, h2⟩ := hR.at_ hj hd
                exact ix_list value slice pins s σ H x y v u Q I rx ry ⟨q, vs, i, y', e, rb.int_, SqL.of hT, h1, p' w y' H w.refl ok h2⟩ hs
              · exact p'.elim
            · exact p'.elim
          · exact p'.elim
      · exact p'.elim
theorem Rps.cut {Φ : Hp} {vs : List V} {ds : List D} (r : Rps Γ Φ vs ds) (lo hi : Option Int) : Rps Γ Φ (cutV vs lo hi) (cut ds lo hi) := by
  unfold cutV KP.cut
  rw [r.len]
  exact (r.drop _).take _
theorem cut_len {α : Type} (xs : List α) (lo hi : Option Int) : (cut xs lo hi).length ≤ xs.length := by
  unfold cut
  rw [List.length_take, List.length_drop]
  omega
theorem cut_map {α β : Type} (f : α → β) (xs : List α) (lo hi : Option Int) : cut (xs.map f) lo hi = (cut xs lo hi).map f := by
  unfold cut
  rw [List.length_map, List.map_take, List.map_drop]
theorem cutV_eq (xs : List V) (lo hi : Option Int) : cutV xs lo hi = cut xs lo hi := rfl
theorem rps_ints {Φ : Hp} : ∀ (ns : List Int), Rps Γ Φ (ns.map V.int) (ns.map D.int)
  | [] => .nil
  | _ :: r => .cons (.int _) (rps_ints r)
theorem o_slc {nw : Bool} (hK : Γ.K = X.K) : SlR X fun x lo hi H Q => ∃ w μ d, OkW Γ w μ H ∧ Rv Γ w x d ∧ postE Γ W σ0 w Q (nwR nw (slcD d lo hi μ)) := by
  intro pins s σ H x v vl vu lo hi sl Q I rx hs pl pu hh
  obtain ⟨w, μ, d, ok, ra, p⟩ := hh
  unfold slcD at p
  split at p
  · rename_i xs
    obtain ⟨q, vs, e, hT, hR, hz⟩ := ra.tup_ ok
    rw [hK] at hT
    have hc := hR.cut lo hi
    refine sl_tupP pins s σ H x v vl vu lo hi sl Q I rx hs pl pu ⟨q, vs, e, hT, fun hw => ?_, fun hw => nw_newTup p ok hc (Nat.le_trans (cut_len _ _ _) hz)⟩
    have e1 : cut xs lo hi = xs := by
      unfold cut
      rw [← hR.len, hw.1, hw.2]
      simp [hR.len]
    rw [e1] at p
    rw [← e]
    exact nw_val p ok ra fun _ => rfl
  · rename_i ns
    obtain ⟨q, e, hT⟩ := ra.scr_ ok
    rw [hK] at hT
    refine sl_list pins s σ H x v vl vu lo hi sl Q I rx hs pl pu ⟨q, _, e, hT, ?_⟩
    rw [cutV_eq, cut_map]
    refine nw_newLst p ok (rps_ints _) ?_
    obtain ⟨its, _, _, hz⟩ := I.list hT
    rw [List.length_map] at hz ⊢
    exact Nat.le_trans (cut_len _ _ _) hz
  · rename_i z
    split at p
    · rename_i hz
      refine sl_str pins s σ H x v vl vu lo hi sl Q I rx hs pl pu ⟨z, ra.str_, hz, ?_⟩
      refine nw_vp p ok ?_ fun _ => rfl
      have e1 : z.cps.toList.length = z.length := by simp [Str.length]
      unfold cutS KP.cut
      rw [e1]
      exact .str _
    · exact (nw_stuck p).elim
  · split at p
    · rename_i xs hl
      obtain ⟨q, vs, e, hT, hR⟩ := ra.lst_ ok hl
      have hz := lst_len I hT
      rw [hR.len] at hz
      exact sl_list pins s σ H x v vl vu lo hi sl Q I rx hs pl pu ⟨q, vs, e, SqL.of hT, nw_newLst p ok (hR.cut lo hi) (Nat.le_trans (cut_len _ _ _) hz)⟩
    · exact (nw_stuck p).elim
/-! calls -/
theorem o_abs : OpC Γ X W σ0 cx .abs (.builtin "abs") := by
  intro pins s σ H xs us Q I r hh
  obtain ⟨w, μ, ds, ok, rv, p⟩ := hh
  rcases ds with _ | ⟨a, _ | ⟨b, t⟩⟩
  · exact (show False from p).elim
  · obtain ⟨x, rfl, ra⟩ : ∃ x, xs = [x] ∧ Rv Γ w x a := by
      match xs, rv with
      | [x], rv => exact ⟨x, rfl, rv.1⟩
    cases a <;> first | exact (show False from p).elim | skip
    exact call_abs pins s σ H _ us Q I r ⟨_, by rw [ra.int_], postE.vp (W := W) p ok (.int _)⟩
  · cases a <;> exact (show False from p).elim
theorem rvs_one {w : Wd} {xs : List V} {a : D} (rv : Rvs Γ w xs [a]) : ∃ x, xs = [x] ∧ Rv Γ w x a := by
  match xs, rv with
  | [x], rv => exact ⟨x, rfl, rv.1⟩
theorem rvs_two {w : Wd} {xs : List V} {a b : D} (rv : Rvs Γ w xs [a, b]) : ∃ x y, xs = [x, y] ∧ Rv Γ w x a ∧ Rv Γ w y b := by
  match xs, rv with
  | [x, y], rv => exact ⟨x, y, rfl, rv.1, rv.2.1⟩
theorem o_toi : OpC Γ X W σ0 cx .toi (.type "int") := by
  intro pins s σ H xs us Q I r hh
  obtain ⟨w, μ, ds, ok, rv, p⟩ := hh
  rcases ds with _ | ⟨a, _ | ⟨b, t⟩⟩
  · exact (show False from p).elim
  · obtain ⟨x, rfl, ra⟩ := rvs_one rv
    cases a <;> first | exact (show False from p).elim | skip
    · rename_i k
      exact call_int1 pins s σ H _ us Q I r (.inr ⟨k, by rw [ra.bl_], postE.vp (W := W) p ok (.int _)⟩)
    · exact call_int1 pins s σ H _ us Q I r (.inl ⟨_, by rw [ra.int_], postE.vp (W := W) p ok (.int _)⟩)
    · rename_i z
      have p' : postE Γ W σ0 w Q (match intText? z with
        | some n => if z.length ≤ 640 then .ok (.int n) μ else .stuck
        | none => .stuck) := p
      split at p'
      · rename_i n hn
        split at p'
        · rename_i hl
          exact call_int_str pins s σ H _ us Q I r ⟨z, n, by rw [ra.str_], hn, hl, postE.vp (W := W) p' ok (.int _)⟩
        · exact p'.elim
      · exact p'.elim
  · cases a <;> exact (show False from p).elim
theorem o_len (hK : Γ.K = X.K) : CallR X (.builtin "len") fun xs H Q => ∃ w μ a x, xs = [x] ∧ OkW Γ w μ H ∧ Rv Γ w x a ∧ (∀ ks vs, a ≠ .dct ks vs) ∧ postE Γ W σ0 w Q (lenD a μ) := by
  intro pins s σ H xs us Q I r hh
  obtain ⟨w, μ, a, x, rfl, ok, ra, hd, p⟩ := hh
  unfold lenD at p
  split at p
  · split at p
    · rename_i hz
      exact call_len_str pins s σ H _ us Q I r ⟨_, by rw [ra.str_], hz, p.vp ok (.int _)⟩
    · exact p.elim
  · exact absurd rfl (hd _ _)
  · split at p
    · rename_i ys hs
      obtain ⟨q, vs, e, hT, hR⟩ := ra.seq_ ok hs
      rw [hK] at hT
      refine call_len_seq pins s σ H _ us Q I r ⟨q, vs, by rw [e], ?_, ?_⟩
      · rcases hT with hT | hT
        · exact .inl (SqL.of hT)
        · exact .inr hT
      · rw [hR.len]; exact p.vp ok (.int _)
    · split at p
      · rename_i ys hs
        obtain ⟨q, vs, e, hT, hR⟩ := ra.lsc_ ok hs
        refine call_len_seq pins s σ H _ us Q I r ⟨q, vs, by rw [e], .inl (SqL.of hT), ?_⟩
        rw [hR.len]; exact p.vp ok (.int _)
      · exact p.elim
theorem o_tolst {nw : Bool} (hK : Γ.K = X.K) : OpCN nw Γ X W σ0 cx .tolst (.type "list") := by
  intro pins s σ H xs us Q I r hh
  obtain ⟨w, μ, ds, ok, rv, p⟩ := hh
  rcases ds with _ | ⟨a, _ | ⟨b, t⟩⟩
  · exact (nw_stuck p).elim
  · obtain ⟨x, rfl, ra⟩ := rvs_one rv
    have p' : postE Γ W σ0 w Q (nwR nw (match seqOf μ a with
      | some xs => .ok (.lst xs) μ
      | none => .stuck)) := p
    split at p'
    · rename_i ys hs
      obtain ⟨q, vs, e, hT, hR⟩ := ra.seq_ ok hs
      rw [hK] at hT
      refine call_list_of pins s σ H _ us Q I r ⟨q, vs, by rw [e], ?_, nw_newLst p' ok hR ?_⟩
      · rcases hT with hT | hT
        · exact .inl (SqL.of hT)
        · exact .inr hT
      · rw [← hR.len]
        rcases hT with hT | hT
        · exact lst_len I hT
        · exact (I.tuple hT).choose_spec.2.2
    · exact (nw_stuck p').elim
  · exact (nw_stuck p).elim
theorem o_totup (hK : Γ.K = X.K) : OpC Γ X W σ0 cx .totup (.type "tuple") := by
  intro pins s σ H xs us Q I r hh
  obtain ⟨w, μ, ds, ok, rv, p⟩ := hh
  rcases ds with _ | ⟨a, _ | ⟨b, t⟩⟩
  · exact (show False from p).elim
  · obtain ⟨x, rfl, ra⟩ := rvs_one rv
    have p' : postE Γ W σ0 w Q (match seqOf μ a with
      | some xs => .ok (.tup xs) μ
      | none => .stuck) := p
    split at p'
    · rename_i ys hs
      rcases strSeq hs with ⟨z, rfl, rfl⟩ | hl
      · obtain ⟨q, vs, e, hT, hR, hz⟩ := ra.tup_ ok
        rw [hK] at hT
        refine call_tupleP pins s σ H _ us Q I r ⟨q, vs, by rw [e], .inr ⟨hT, ?_⟩⟩
        rw [← e]
        exact p'.val ok ra
      · obtain ⟨q, vs, e, hT, hR⟩ := ra.lst_ ok hl
        have hz := lst_len I hT
        rw [hR.len] at hz
        exact call_tupleP pins s σ H _ us Q I r ⟨q, vs, by rw [e], .inl ⟨SqL.of hT, p'.newTup ok hR hz⟩⟩
    · exact p'.elim
  · exact (show False from p).elim
theorem o_max2 (hc : X.calm = true) : OpC Γ X W σ0 cx .max2 (.builtin "max") := by
  intro pins s σ H xs us Q I r hh
  obtain ⟨w, μ, ds, ok, rv, p⟩ := hh
  rcases ds with _ | ⟨a, _ | ⟨b, _ | ⟨c, t⟩⟩⟩
  · exact (show False from p).elim
  · cases a <;> exact (show False from p).elim
  · obtain ⟨x, y, rfl, ra, rb⟩ := rvs_two rv
    cases a <;> cases b <;> first | exact (show False from p).elim | skip
    exact call_max2 hc pins s σ H _ us Q I r ⟨_, _, by rw [ra.int_, rb.int_], postE.vp (W := W) p ok (.int _)⟩
  · cases a <;> cases b <;> exact (show False from p).elim
theorem o_min2 (hc : X.calm = true) : OpC Γ X W σ0 cx .min2 (.builtin "min") := by
  intro pins s σ H xs us Q I r hh
  obtain ⟨w, μ, ds, ok, rv, p⟩ := hh
  rcases ds with _ | ⟨a, _ | ⟨b, _ | ⟨c, t⟩⟩⟩
  · exact (show False from p).elim
  · cases a <;> exact (show False from p).elim
  · obtain ⟨x, y, rfl, ra, rb⟩ := rvs_two rv
    cases a <;> cases b <;> first | exact (show False from p).elim | skip
    exact call_min2 hc pins s σ H _ us Q I r ⟨_, _, by rw [ra.int_, rb.int_], postE.vp (W := W) p ok (.int _)⟩
  · cases a <;> cases b <;> exact (show False from p).elim
theorem o_all (hc : X.calm = true) : OpC Γ X W σ0 cx .all (.builtin "all") := by
  intro pins s σ H xs us Q I r hh
  obtain ⟨w, μ, ds, ok, rv, p⟩ := hh
  rcases ds with _ | ⟨a, _ | ⟨b, t⟩⟩
  · exact (show False from p).elim
  · obtain ⟨x, rfl, ra⟩ := rvs_one rv
    have p' : postE Γ W σ0 w Q (match lstOf μ a with
      | some xs => (match blsOf xs with
        | some bs => okB (bs.all id) μ
        | none => .stuck)
      | none => .stuck) := p
    split at p'
    · rename_i ys hs
      split at p'
      · rename_i bs hb
        obtain ⟨q, vs, e, hT, hR⟩ := ra.lst_ ok hs
        have e2 := hR.bls hb
        subst e2
        exact cr_all hc pins s σ H _ us Q I r ⟨q, bs, by rw [e], SqL.of hT, postE.vp (W := W) p' ok (.bl _)⟩
      · exact p'.elim
    · exact p'.elim
  · exact (show False from p).elim
theorem o_any (hc : X.calm = true) : OpC Γ X W σ0 cx .any (.builtin "any") := by
  intro pins s σ H xs us Q I r hh
  obtain ⟨w, μ, ds, ok, rv, p⟩ := hh
  rcases ds with _ | ⟨a, _ | ⟨b, t⟩⟩
  · exact (show False from p).elim
  · obtain ⟨x, rfl, ra⟩ := rvs_one rv
    have p' : postE Γ W σ0 w Q (match lstOf μ a with
      | some xs => (match blsOf xs with
        | some bs => okB (bs.any id) μ
        | none => .stuck)
      | none => .stuck) := p
    split at p'
    · rename_i ys hs
      split at p'
      · rename_i bs hb
        obtain ⟨q, vs, e, hT, hR⟩ := ra.lst_ ok hs
        have e2 := hR.bls hb
        subst e2
        exact cr_any hc pins s σ H _ us Q I r ⟨q, bs, by rw [e], SqL.of hT, postE.vp (W := W) p' ok (.bl _)⟩
      · exact p'.elim
    · exact p'.elim
  · exact (show False from p).elim
/-! methods of lists -/
theorem o_app : OpM Γ X W σ0 cx .app "list.append" := by
  intro pins s σ H x xs v us Q I rx rxs hh
  obtain ⟨w, μ, ds, ok, rv, p⟩ := hh
  rcases ds with _ | ⟨a, ds⟩
  · exact (show False from p).elim
  rcases ds with _ | ⟨b, _ | ⟨c, t⟩⟩
  · cases a <;> exact (show False from p).elim
  · obtain ⟨y, rfl, rb⟩ := rvs_one rv.2
    have ra := rv.1
    cases a <;> first | exact (show False from p).elim | skip
    rename_i n
    have p' : postE Γ W σ0 w Q (match μ[n]? with
      | some (.lst xs) => if b.isCell then .stuck else if xs.length < LN then .ok .non (μ.set n (.lst (xs ++ [b]))) else .stuck
      | _ => .stuck) := p
    rcases ra with ⟨k, a, ek, e2, e3⟩ | ⟨ek, _⟩
    · cases ek
      split at p'
      · rename_i ys hs
        split at p'
        · exact p'.elim
        · rename_i hb
          split at p'
          · rename_i hz
            obtain ⟨⟨vs, h1, h2⟩, _⟩ := ok.cel n a _ e2 hs
            have rb' := rb.rp (by simpa using hb)
            have hz' : vs.length < sizeLine := by rw [h2.len]; exact hz
            refine mt_append pins s σ H x [y] v us Q I rx rxs ⟨a, vs, y, e3, rfl, h1, hz', ?_⟩
            exact p' w .non _ w.refl (ok.write e2 hs (by simp) ⟨_, upd_same, h2.app (.cons rb' .nil)⟩) (.val .non)
          · exact p'.elim
      · exact p'.elim
    · cases ek
  · cases a <;> exact (show False from p).elim
theorem Rps.erase {Φ : Hp} : ∀ {vs : List V} {xs : List D} (j : Nat), Rps Γ Φ vs xs → Rps Γ Φ (vs.eraseIdx j) (xs.eraseIdx j)
  | _, _, _, .nil => .nil
  | _, _, 0, .cons a r => r
  | _, _, j + 1, .cons a r => .cons a (r.erase j)
theorem o_popA : OpM Γ X W σ0 cx .popA "list.pop" := by
  intro pins s σ H x xs v us Q I rx rxs hh
  obtain ⟨w, μ, ds, ok, rv, p⟩ := hh
  rcases ds with _ | ⟨a, ds⟩
  · exact (show False from p).elim
  rcases ds with _ | ⟨b, _ | ⟨c, t⟩⟩
  · cases a <;> exact (show False from p).elim
  · obtain ⟨y, rfl, rb⟩ := rvs_one rv.2
    have ra := rv.1
    cases a <;> first | exact (show False from p).elim | skip
    cases b <;> first | exact (show False from p).elim | skip
    rename_i n i
    have p' : postE Γ W σ0 w Q (match μ[n]? with
      | some (.lst xs) => if 0 ≤ i then (match xs[i.toNat]? with
        | some d => .ok d (μ.set n (.lst (xs.eraseIdx i.toNat)))
        | none => .stuck) else .stuck
      | _ => .stuck) := p
    rcases ra with ⟨k, a, ek, e2, e3⟩ | ⟨ek, _⟩
    · cases ek
      split at p'
      · rename_i ys hs
        split at p'
        · rename_i h0
          split at p'
          · rename_i d hd
            obtain ⟨⟨vs, h1, h2⟩, _⟩ := ok.cel n a _ e2 hs
            obtain ⟨z, q1, q2⟩ := h2.get hd
            have ey := rb.int_
            subst ey
            have hlt := (List.getElem?_eq_some_iff.mp q1).1
            have hz := (I.lst h1).choose_spec.choose_spec.2.2
            have hn := line63
            refine mt_popAt pins s σ H x [.int i] v us Q I rx rxs ⟨a, vs, i, i.toNat, z, e3, rfl, h1, by omega, by omega, ?_, q1, ?_⟩
            · rw [seqIndex_of h0 (by omega)]
            · exact p' w z _ w.refl (ok.write e2 hs (by simp) ⟨_, upd_same, h2.erase _⟩) (.val q2)
          · exact p'.elim
        · exact p'.elim
      · exact p'.elim
    · cases ek
  · cases a <;> cases b <;> exact (show False from p).elim
theorem o_ext : OpM Γ X W σ0 cx .ext "list.extend" := by
  intro pins s σ H x xs v us Q I rx rxs hh
  obtain ⟨w, μ, ds, ok, rv, p⟩ := hh
  rcases ds with _ | ⟨a, ds⟩
  · exact (show False from p).elim
  rcases ds with _ | ⟨b, _ | ⟨c, t⟩⟩
  · cases a <;> exact (show False from p).elim
  · obtain ⟨y, rfl, rb⟩ := rvs_one rv.2
    have ra := rv.1
    cases a <;> cases b <;> first | exact (show False from p).elim | skip
    rename_i n zs
    have p' : postE Γ W σ0 w Q (match μ[n]? with
      | some (.lst xs) => if xs.length + zs.length ≤ LN then .ok .non (μ.set n (.lst (xs ++ zs))) else .stuck
      | _ => .stuck) := by
      cases n <;> exact p
    rcases ra with ⟨k, a, ek, e2, e3⟩ | ⟨ek, _⟩
    · cases ek
      split at p'
      · rename_i ys hs
        split at p'
        · rename_i hz
          obtain ⟨⟨vs, h1, h2⟩, _⟩ := ok.cel n a _ e2 hs
          obtain ⟨pb, ws, f1, f2, f3⟩ := rb.lst_ (xs := zs) ok rfl
          have hz' : vs.length + ws.length ≤ sizeLine := by rw [h2.len, f3.len]; exact hz
          refine mt_extend pins s σ H x [y] v us Q I rx rxs ⟨a, pb, vs, ws, e3, by rw [f1], h1, f2, hz', ?_⟩
          exact p' w .non _ w.refl (ok.write e2 hs (by simp) ⟨_, upd_same, h2.app f3⟩) (.val .non)
        · exact p'.elim
      · exact p'.elim
    · cases ek
  · cases a <;> cases b <;> exact (show False from p).elim
end
end KP
end

section
set_option maxRecDepth 100000
set_option maxHeartbeats 4000000
/-! KP5: the small syntax held against the program's own; expressions. -/
namespace KP
open PySem PySem.Spec PyProof.Rows L2

/-- what a global name stands for -/
inductive GR where
  | fn (f : Nat) | cls (c : Nat) | val (d : D) | free | ctc (g : Nat) | kdt (t : List (Str × D))
deriving DecidableEq
/-- a table of the top -/
structure KTab (Γ : Glob) (w : World) (a : Addr) (t : List (Str × D)) : Prop where
  kd : ∃ es n, KDict Γ.K w a es n
  some_ : ∀ z d, tlk t z = some d → ∃ u v, PySem.W.nsIn Γ.K a z = some (some u) ∧ RelV v u ∧ ∀ Φ, Rp Γ Φ v d
  none_ : ∀ z, tlk t z = none → PySem.W.nsIn Γ.K a z = some none
structure Cv where
  N : List Str
  sc : Scope
  st : Str → Bool
  gl : List (Str × GR)
  nm : Nat → Str
  /-- how a lambda is named that is made here -/
  lm : Option Str
  /-- within a comprehension's block -/
  bl : Bool
def Cv.vis (C : Cv) (i : Nat) (x : Str) : Bool := decide (C.N[i]? = some x) && ((C.sc.names.lookup x == some .local) || (C.sc.names.lookup x == some .cell) || (C.sc.names.lookup x == some .free)) && !(x == ("__debug__" : Str)) && !(x == ("__classdict__" : Str))
def Cv.sto (C : Cv) (i : Nat) (x : Str) : Bool := decide (C.N[i]? = some x) && ((C.sc.names.lookup x == some .local) || ((C.sc.names.lookup x == some .cell) && C.st x))
def Cv.glo (C : Cv) (x : Str) : Option GR := if (C.sc.names.lookup x == some .globalImplicit) && !(x == ("__debug__" : Str)) && !(x == ("__name__" : Str)) then C.gl.lookup x else none
def opOf : Operator → Option Op
  | .Add => some .add | .Sub => some .sub | .Mult => some .mul | .FloorDiv => some .fdiv | .Mod => some .mod | .Pow => some .pow
  | _ => none
def cmpOf : CmpOp → Option Op
  | .Eq => some .eq | .NotEq => some .ne | .Lt => some .lt | .LtE => some .le | .Gt => some .gt | .GtE => some .ge | .In => some .inn | .NotIn => some .nin
  | _ => none
/-- built-in functions and types, by name and number of arguments -/
def bltOf (x : Str) (n : Nat) : Option Op :=
  if x = ("len" : Str) then (if n = 1 then some .len else none)
  else if x = ("abs" : Str) then (if n = 1 then some .abs else none)
  else if x = ("int" : Str) then (if n = 1 then some .toi else none)
  else if x = ("tuple" : Str) then (if n = 1 then some .totup else none)
  else if x = ("list" : Str) then (if n = 1 then some .tolst else none)
  else if x = ("all" : Str) then (if n = 1 then some .all else none)
  else if x = ("any" : Str) then (if n = 1 then some .any else none)
  else if x = ("max" : Str) then (if n = 2 then some .max2 else if n = 1 then some .max1 else none)
  else if x = ("min" : Str) then (if n = 2 then some .min2 else if n = 1 then some .min1 else none)
  else none

/-- what holds of a global name -/
def GOk (Γ : Glob) (X : Cx) (x : Str) : GR → Prop
  | .fn f => X.mg x = some (.ref (Γ.fad f)) ∧ PySem.W.keepIn X.K (.ref (Γ.fad f)) = true
  | .cls c => X.mg x = some (.ref (Γ.cls c))
  | .val d => ∃ v u, X.mg x = some u ∧ RelV v u ∧ ∀ Φ, Rp Γ Φ v d
  | .free => X.mg x = none
  | .ctc g => X.mg x = some (.ref (Γ.cad g)) ∧ PySem.W.keepIn X.K (.ref (Γ.cad g)) = true
  | .kdt t => ∃ a, X.mg x = some (.ref a) ∧ KTab Γ X.w a t
/-- a lambda may be made here -/
structure LmOk (Γ : Glob) (X : Cx) (k : Nat) (q : Str) : Prop where
  room : Room (k + 2) X.A
  nm : X.env.qual ++ "<lambda>" = q
  tab : ∃ c P, X.env.code = .ref c ∧ LamX.TabB X.base X.mg c P ∧ (P, q) ∈ Γ.tb ∧ ∀ p ∈ Γ.tb, p.1 = P → p.2 = q
structure Sx (Γ : Glob) (C : Cv) (k : Nat) (X : Cx) (W : WX) : Prop where
  hK : Γ.K = X.K
  hN : X.N = C.N
  sc : X.env.scope = C.sc
  nd : X.N.Nodup
  calm : X.calm = true
  room : Room k X.A
  gd : X.A.guards = some []
  tk : C.bl = false → Takes X W
  po : C.bl = false → PassesOwn (model X.prog X.w) X.A X.env X.xe
  stk : C.bl = false → X.stack = X.env :: X.outer
  frm : C.bl = false → X.env.frame = some X.env.locals
  pa : ∀ σ, PassesAt (L2.CX X.prog X.w) X σ (WE W σ)
  gl : ∀ p ∈ C.gl, GOk Γ X p.1 p.2
  stq : ∀ x, C.st x = true → X.fn x = true
  lmk : ∀ q, C.lm = some q → LmOk Γ X k q
  nmk : C.nm = Γ.nm
section
variable {Γ : Glob} {C : Cv} {k : Nat} {X : Cx} {W : WX} {cx : Cxt}
theorem Sx.vis (S : Sx Γ C k X W) {i : Nat} {x : Str} (h : C.vis i x = true) : X.N[i]? = some x ∧ Vis X.env.scope x ∧ (x == ("__debug__" : Str)) = false ∧ (x == ("__classdict__" : Str)) = false := by
  unfold Cv.vis at h
  simp only [Bool.and_eq_true, Bool.or_eq_true, Bool.not_eq_true', decide_eq_true_eq, beq_iff_eq] at h
  obtain ⟨⟨⟨h1, h2⟩, h3⟩, h4⟩ := h
  refine ⟨by rw [S.hN]; exact h1, ?_, h3, h4⟩
  rw [S.sc]
  rcases h2 with (h2 | h2) | h2
  · exact .inl h2
  · exact .inr (.inl h2)
  · exact .inr (.inr h2)
theorem Sx.glo (S : Sx Γ C k X W) {x : Str} {g : GR} (h : C.glo x = some g) : Gl X x ∧ GOk Γ X x g ∧ (x == ("__debug__" : Str)) = false ∧ x ≠ "__name__" := by
  unfold Cv.glo at h
  split at h
  · rename_i hc
    simp only [Bool.and_eq_true, Bool.not_eq_true', beq_iff_eq] at hc
    obtain ⟨⟨h1, h2⟩, h3⟩ := hc
    refine ⟨?_, S.gl (x, g) (PySem.mem_of_lookup h), h2, fun e => ?_⟩
    · show X.env.scope.names.lookup x = _
      rw [S.sc]; exact h1
    · rw [e] at h3; simp at h3
  · cases h
theorem Sx.sto (S : Sx Γ C k X W) {i : Nat} {x : Str} (h : C.sto i x = true) : X.N[i]? = some x ∧ Loc X.env.scope x ∧ (X.fn x = true ∨ X.env.scope.names.lookup x = some .local) := by
  unfold Cv.sto at h
  simp only [Bool.and_eq_true, Bool.or_eq_true, decide_eq_true_eq, beq_iff_eq] at h
  obtain ⟨h1, h2⟩ := h
  refine ⟨by rw [S.hN]; exact h1, ?_, ?_⟩
  · rw [S.sc]
    rcases h2 with h2 | h2
    · exact .inl h2
    · exact .inr h2.1
  · rw [S.sc]
    rcases h2 with h2 | h2
    · exact .inr h2
    · exact .inl (S.stq x h2.2)
/-! ### forms -/
theorem s_var (S : Sx Γ C k X W) {i : Nat} {x : Str} {pos : Pos} (h : C.vis i x = true) : PE X (.Name x pos) (rdE Γ W (ev cx (.v i))) := by
  obtain ⟨h1, h2, h3, h4⟩ := S.vis h
  refine ⟨fun pins s σ H Q I hh => ?_⟩
  refine (pe_var (i := i) h1 h2 h3 h4).run pins s σ H Q I ?_
  obtain ⟨w, ρ, μ, ds, g, rv, p⟩ := hh
  simp only [ev_v, getV] at p
  split at p
  · rename_i d e
    obtain ⟨v, e1, r⟩ := g.st.at_ i d e
    exact ⟨v, e1, p.val g.ok r⟩
  · exact p.elim
theorem s_val (S : Sx Γ C k X W) {x : Str} {d : D} {pos : Pos} (h : C.glo x = some (.val d)) : PE X (.Name x pos) (rdE Γ W (ev cx (.c d))) := by
  obtain ⟨h1, ⟨v, u, h2, h3, h4⟩, h5, _⟩ := S.glo h
  refine ⟨fun pins s σ H Q I hh => ?_⟩
  refine (pe_glob h1 h2 h3 h5).run pins s σ H Q I ?_
  obtain ⟨w, ρ, μ, ds, g, rv, p⟩ := hh
  simp only [ev_c] at p
  exact p.vp g.ok (h4 _)
theorem s_const {pe : Expr} {v : V} {d : D} (h : PE X pe (tC v)) (r : ∀ Φ, Rp Γ Φ v d) : PE X pe (rdE Γ W (ev cx (.c d))) := by
  refine ⟨fun pins s σ H Q I hh => ?_⟩
  refine h.run pins s σ H Q I ?_
  obtain ⟨w, ρ, μ, ds, g, rv, p⟩ := hh
  simp only [ev_c] at p
  exact p.vp g.ok (r _)
theorem R.bind_assoc {α β γ : Type} (r : R α) (f : α → Mu → R β) (g : β → Mu → R γ) : (r.bind f).bind g = r.bind fun a μ => (f a μ).bind g := by cases r <;> rfl
theorem R.bind_ok {α : Type} (r : R α) : (r.bind fun a μ => .ok a μ) = r := by cases r <;> rfl
theorem rdE.mono {m : Rho → Mu → R D} {σ : St} {H : Hp} {Q Q' : VK} (h : rdE Γ W m σ H Q) (hq : ∀ v H1, Q v H1 → Q' v H1) : rdE Γ W m σ H Q' := by
  obtain ⟨w, ρ, μ, ds, g, rv, p⟩ := h
  refine ⟨w, ρ, μ, ds, g, rv, ?_⟩
  dsimp only at p ⊢
  generalize m ρ μ = r at p ⊢
  cases r with
  | ok d μ1 => exact fun w1 v H1 le ok r1 => hq _ _ (p w1 v H1 le ok r1)
  | exc c ns vs μ1 => exact p
  | stuck => exact p
theorem rdA.mono {m : Rho → Mu → R (List D)} {σ : St} {H : Hp} {Q Q' : List V → Hp → Prop} (h : rdA Γ W m σ H Q) (hq : ∀ v H1, Q v H1 → Q' v H1) : rdA Γ W m σ H Q' := by
  obtain ⟨w, ρ, μ, ds, g, rv, p⟩ := h
  refine ⟨w, ρ, μ, ds, g, rv, ?_⟩
  dsimp only at p ⊢
  generalize m ρ μ = r at p ⊢
  cases r with
  | ok d μ1 => exact fun w1 v H1 le ok r1 => hq _ _ (p w1 v H1 le ok r1)
  | exc c ns vs μ1 => exact p
  | stuck => exact p
theorem rdB.mono {m : Rho → Mu → R Bool} {σ : St} {H : Hp} {Q Q' : Bool → Hp → Prop} (h : rdB Γ W m σ H Q) (hq : ∀ v H1, Q v H1 → Q' v H1) : rdB Γ W m σ H Q' := by
  obtain ⟨w, ρ, μ, ds, g, rv, p⟩ := h
  refine ⟨w, ρ, μ, ds, g, rv, ?_⟩
  dsimp only at p ⊢
  generalize m ρ μ = r at p ⊢
  cases r with
  | ok d μ1 => exact fun w1 H1 le ok => hq _ _ (p w1 H1 le ok)
  | exc c ns vs μ1 => exact p
  | stuck => exact p
/-- the reading starts from the same state -/
theorem RD.start {m m' : Rho → Mu → R D} {σ : St} {H : Hp} {Q : VK} (h : rdE Γ W m σ H Q) (e : ∀ ρ μ, m ρ μ = m' ρ μ) : rdE Γ W m' σ H Q := by
  have : m = m' := funext fun ρ => funext fun μ => e ρ μ
  rw [← this]; exact h
theorem nwR_bind {α : Type} {nw : Bool} (r : R α) (f : α → Mu → R D) : nwR nw (r.bind f) = r.bind fun a μ => nwR nw (f a μ) := by
  cases nw
  · rfl
  · exact R.bind_assoc r f thawR
/-- an operation of two parts -/
theorem op2_eval {nw : Bool} {o : Op} (ho : o ≠ .not) {x y : E} {σ : St} {H : Hp} {Q : VK} (hx : x.isSt = false) (hy : y.isSt = false) (h : rdE Γ W (fun ρ μ => nwR nw (ev cx (.op o [x, y]) ρ μ)) σ H Q) :
    rdE Γ W (ev cx x) σ H fun v H1 => rdE Γ W (ev cx y) σ H1 fun u H2 => RO Γ W σ [v, u] (fun ds μ => nwR nw (opD cx o ds μ)) H2 Q := by
  have h1 : RD Γ W [] (fun ds ρ μ => (ev cx x ρ μ).bind fun d μ => (ev cx y ρ μ).bind fun e μ => nwR nw (opD cx o (ds ++ [d] ++ [e]) μ)) σ H Q := by
    obtain ⟨w, ρ, μ, ds, g, rv, p⟩ := h
    refine ⟨w, ρ, μ, [], g, trivial, ?_⟩
    simp only [ev_op ho, evs_cons hx, evs_cons hy, evs_nil, R.bind_assoc, R.ok_bind, nwR_bind] at p
    exact p
  exact rdE.mono (RD.eval (f := fun ds ρ μ => (ev cx y ρ μ).bind fun e μ => nwR nw (opD cx o (ds ++ [e]) μ)) h1) fun v H1 h2 => rdE.mono (RD.eval (f := fun ds (ρ : Rho) μ => nwR nw (opD cx o ds μ)) h2) fun u H2 h3 => h3.ro
theorem op1_eval {nw : Bool} {o : Op} (ho : o ≠ .not) {x : E} {σ : St} {H : Hp} {Q : VK} (hx : x.isSt = false) (h : rdE Γ W (fun ρ μ => nwR nw (ev cx (.op o [x]) ρ μ)) σ H Q) :
    rdE Γ W (ev cx x) σ H fun v H1 => RO Γ W σ [v] (fun ds μ => nwR nw (opD cx o ds μ)) H1 Q := by
  have h1 : RD Γ W [] (fun ds ρ μ => (ev cx x ρ μ).bind fun d μ => nwR nw (opD cx o (ds ++ [d]) μ)) σ H Q := by
    obtain ⟨w, ρ, μ, ds, g, rv, p⟩ := h
    refine ⟨w, ρ, μ, [], g, trivial, ?_⟩
    simp only [ev_op ho, evs_cons hx, evs_nil, R.bind_assoc, R.ok_bind, nwR_bind] at p
    exact p
  exact rdE.mono (RD.eval (f := fun ds (ρ : Rho) μ => nwR nw (opD cx o ds μ)) h1) fun v H1 h2 => h2.ro
theorem opn_eval {nw : Bool} {o : Op} (ho : o ≠ .not) {xs : List E} {σ : St} {H : Hp} {Q : VK} (h : rdE Γ W (fun ρ μ => nwR nw (ev cx (.op o xs) ρ μ)) σ H Q) :
    rdA Γ W (evs cx xs) σ H fun vs H1 => RO Γ W σ vs (fun ds μ => nwR nw (opD cx o ds μ)) H1 Q := by
  have h1 : RD Γ W [] (fun ds ρ μ => (evs cx xs ρ μ).bind fun d μ => nwR nw (opD cx o (ds ++ d) μ)) σ H Q := by
    obtain ⟨w, ρ, μ, ds, g, rv, p⟩ := h
    refine ⟨w, ρ, μ, [], g, trivial, ?_⟩
    simp only [ev_op ho, nwR_bind] at p
    exact p
  exact rdA.mono (RD.evals (f := fun ds (ρ : Rho) μ => nwR nw (opD cx o ds μ)) h1) fun v H1 h2 => h2.ro
variable {a b e : Expr} {es : List Expr} {x y : E} {xs : List E} {pos : Pos}
theorem s_bin {nw : Bool} {op : Operator} {o : Op} (hn : o ≠ .not) (ho : ∀ σ0, Op2N nw Γ X W σ0 cx o (binaryOp op)) (hx : x.isSt = false) (hy : y.isSt = false) (ha : PE X a (rdE Γ W (ev cx x))) (hb : PE X b (rdE Γ W (ev cx y))) : PE X (.BinOp a op b pos) (rdE Γ W fun ρ μ => nwR nw (ev cx (.op o [x, y]) ρ μ)) :=
  ⟨fun pins s σ H Q I h => (pe_op (ho σ) ha hb).run pins s σ H Q I (op2_eval hn hx hy h)⟩
theorem s_cmp {op : CmpOp} {o : Op} (hn : o ≠ .not) (ho : ∀ σ0, Op2 Γ X W σ0 cx o (compareOp op)) (hm : behindInMarks op b = false) (hx : x.isSt = false) (hy : y.isSt = false) (ha : PE X a (rdE Γ W (ev cx x))) (hb : PE X b (rdE Γ W (ev cx y))) :
    PE X (.Compare a [op] [b] pos) (rdE Γ W (ev cx (.op o [x, y]))) :=
  ⟨fun pins s σ H Q I h => (pe_cmpR (ho σ) ha hb hm).run pins s σ H Q I (op2_eval (nw := false) hn hx hy h)⟩
theorem s_isN (hx : x.isSt = false) {j : Nat} {p2 : Pos} (ha : PE X a (rdE Γ W (ev cx x))) : PE X (.Compare a [.Is] [.Constant .none j p2] pos) (rdE Γ W (ev cx (.op .isN [x]))) :=
  ⟨fun pins s σ H Q I h => (pe_cmpR (o_isN (σ0 := σ)) ha pe_non (nomark _)).run pins s σ H Q I (rdE.mono (op1_eval (nw := false) (by simp) hx h) fun v H1 q => ⟨rfl, q⟩)⟩
theorem s_notN (hx : x.isSt = false) {j : Nat} {p2 : Pos} (ha : PE X a (rdE Γ W (ev cx x))) : PE X (.Compare a [.IsNot] [.Constant .none j p2] pos) (rdE Γ W (ev cx (.op .notN [x]))) :=
  ⟨fun pins s σ H Q I h => (pe_cmpR (o_notN (σ0 := σ)) ha pe_non (nomark _)).run pins s σ H Q I (rdE.mono (op1_eval (nw := false) (by simp) hx h) fun v H1 q => ⟨rfl, q⟩)⟩
theorem s_idx (hK : Γ.K = X.K) (hs : PlainIx b) (hx : x.isSt = false) (hy : y.isSt = false) (ha : PE X a (rdE Γ W (ev cx x))) (hb : PE X b (rdE Γ W (ev cx y))) : PE X (.Subscript a b pos) (rdE Γ W (ev cx (.op .idx [x, y]))) :=
  ⟨fun pins s σ H Q I h => (pe_ix (o_idx (W := W) (σ0 := σ) (cx := cx) hK) ha hb hs).run pins s σ H Q I (op2_eval (nw := false) (by simp) hx hy h)⟩
theorem s_un {op : UnaryOp} {o : Op} (hn : o ≠ .not) (ho : ∀ σ0, Op1 Γ X W σ0 cx o (unaryOp op)) (hx : x.isSt = false) (ha : PE X a (rdE Γ W (ev cx x))) : PE X (.UnaryOp op a pos) (rdE Γ W (ev cx (.op o [x]))) :=
  ⟨fun pins s σ H Q I h => (pe_un (ho σ) ha).run pins s σ H Q I (op1_eval (nw := false) hn hx h)⟩
/-! ### argument lists, displays -/
theorem sa_nil : PA X [] (rdA Γ W (evs cx [])) := ⟨fun ps pins s σ H Q I h => pa_nil.run ps pins s σ H Q I (by
  obtain ⟨w, ρ, μ, ds, g, rv, p⟩ := h
  exact p w [] H w.refl g.ok trivial)⟩
theorem sa_cons (hx : x.isSt = false) (ha : PE X e (rdE Γ W (ev cx x))) (hr : PA X es (rdA Γ W (evs cx xs))) (hs : starEach (e :: es) X.env = (false, eval e X.env) :: starEach es X.env) : PA X (e :: es) (rdA Γ W (evs cx (x :: xs))) := by
  refine ⟨fun ps pins s σ H Q I h => (pa_cons ha hr hs).run ps pins s σ H Q I ?_⟩
  have h1 : RDA Γ W [] (fun ds ρ μ => (ev cx x ρ μ).bind fun d μ => (evs cx xs ρ μ).bind fun es μ => .ok (ds ++ [d] ++ es) μ) σ H Q := by
    obtain ⟨w, ρ, μ, ds, g, rv, p⟩ := h
    refine ⟨w, ρ, μ, [], g, trivial, ?_⟩
    simp only [evs_cons hx] at p
    exact p
  refine rdE.mono (RDA.eval (f := fun ds ρ μ => (evs cx xs ρ μ).bind fun es μ => .ok (ds ++ es) μ) h1) fun v H1 h2 => ?_
  refine rdA.mono (RDA.evals (f := fun ds (_ : Rho) μ => .ok ds μ) h2) fun us H2 h3 => ?_
  obtain ⟨w, ρ, μ, ds, g, rv, p⟩ := h3
  exact p w _ H2 w.refl g.ok rv
def starF (cx : Cxt) (xs : List E) : List D → Rho → Mu → R (List D)
  | [d], ρ, μ => starD d μ fun μ => evs cx xs ρ μ
  | _, _, _ => .stuck
theorem Rvs.ofRps {w : Wd} : ∀ {vs : List V} {ds : List D}, Rps Γ w.Φ vs ds → Rvs Γ w vs ds
  | _, _, .nil => trivial
  | _, _, .cons a r => ⟨.val a, Rvs.ofRps r⟩
theorem sa_star (hK : Γ.K = X.K) {p1 : Pos} (ha : PE X e (rdE Γ W (ev cx x))) (hr : PA X es (rdA Γ W (evs cx xs))) : PA X (.Starred e p1 :: es) (rdA Γ W (evs cx (.st x :: xs))) := by
  refine ⟨fun ps pins s σ H Q I h => (StX.pa_star ha hr).run ps pins s σ H Q I ?_⟩
  have h1 : RDA Γ W [] (fun ds ρ μ => (ev cx x ρ μ).bind fun d μ => starF cx xs (ds ++ [d]) ρ μ) σ H Q := by
    obtain ⟨w, ρ, μ, ds, g, rv, p⟩ := h
    exact ⟨w, ρ, μ, [], g, trivial, p⟩
  refine rdE.mono (RDA.eval (f := starF cx xs) h1) fun v H1 h2 => ?_
  obtain ⟨w, ρ, μ, ds, g, rv, p⟩ := h2
  obtain ⟨d, rfl, r⟩ := rv.one
  simp only [starF, starD] at p
  split at p
  · rename_i ys hs
    obtain ⟨a, vs, e1, hT, hR⟩ := r.seq_ g.ok hs
    rw [hK] at hT
    refine ⟨a, vs, e1, hT.elim (fun z => .inr (SqL.of z)) .inl, w, ρ, μ, [], g, trivial, ?_⟩
    dsimp only
    revert p
    generalize evs cx xs ρ μ = r2
    intro p
    cases r2 with
    | ok zs μ2 =>
      exact fun w2 us H2 le ok r3 => p w2 _ H2 le ok ((Rvs.ofRps (Rps.mono le.1 _ _ hR)).app r3)
    | exc c ns ws μ2 => exact p
    | stuck => exact p
  · exact p.elim
theorem s_tup {k : Nat} (h : PA X es (rdA Γ W (evs cx xs))) : PE X (.Tuple es k pos) (rdE Γ W (ev cx (.tup xs))) := by
  refine ⟨fun pins s σ H Q I hh => (pe_tupP h).run pins s σ H Q I ?_⟩
  have h1 : RD Γ W [] (fun ds ρ μ => (evs cx xs ρ μ).bind fun d μ => mkTup (ds ++ d) μ) σ H Q := by
    obtain ⟨w, ρ, μ, ds, g, rv, p⟩ := hh
    exact ⟨w, ρ, μ, [], g, trivial, p⟩
  refine rdA.mono (RD.evals (f := fun ds (_ : Rho) μ => mkTup ds μ) h1) fun us H1 h2 => ?_
  obtain ⟨w, ρ, μ, ds, g, rv, p⟩ := h2
  dsimp only at p
  unfold mkTup at p
  split at p
  · exact p.elim
  · rename_i hc
    split at p
    · rename_i hz
      have rv' : Rvs Γ w us ds := rv
      have hr := Rps.of (Φ := w.Φ) (θ := w.θ) (ps := w.pr) rv' (by simpa using hc)
      exact ⟨by rw [hr.len]; exact hz, p.newTup g.ok hr hz⟩
    · exact p.elim
theorem s_lst {nw : Bool} (h : PA X es (rdA Γ W (evs cx xs))) : PE X (.List es pos) (rdE Γ W fun ρ μ => nwR nw (ev cx (.lst xs) ρ μ)) := by
  refine ⟨fun pins s σ H Q I hh => (pe_lst h).run pins s σ H Q I ?_⟩
  have h1 : RD Γ W [] (fun ds ρ μ => (evs cx xs ρ μ).bind fun d μ => nwR nw (mkLst (ds ++ d) μ)) σ H Q := by
    obtain ⟨w, ρ, μ, ds, g, rv, p⟩ := hh
    refine ⟨w, ρ, μ, [], g, trivial, ?_⟩
    simp only [ev_lst, nwR_bind] at p
    exact p
  refine rdA.mono (RD.evals (f := fun ds (_ : Rho) μ => nwR nw (mkLst ds μ)) h1) fun us H1 h2 => ?_
  obtain ⟨w, ρ, μ, ds, g, rv, p⟩ := h2
  dsimp only at p
  unfold mkLst at p
  split at p
  · split at p
    · rename_i hz
      have l := Rvs.len (show Rvs Γ w us ds from rv)
      refine ⟨by rw [l]; exact hz, fun q hq => ?_⟩
      cases nw with
      | true => exact (show False from p).elim
      | false =>
        refine p (w.cel q) _ _ (w.cel_le q) (g.ok.addLsc hq rv) (.inl ⟨μ.length, q, rfl, ?_, rfl⟩)
        show (w.θ ++ [q])[μ.length]? = some q
        rw [← g.ok.len]
        simp
    · exact (nw_stuck p).elim
  · rename_i hc
    split at p
    · rename_i hz
      have hr := Rps.of (Φ := w.Φ) (θ := w.θ) (ps := w.pr) (show Rvs Γ w us ds from rv) (by simpa using hc)
      exact ⟨by rw [hr.len]; exact hz, nw_newLst p g.ok hr hz⟩
    · exact (nw_stuck p).elim
end
end KP
end

section
set_option maxRecDepth 100000
set_option maxHeartbeats 4000000
/-! KP6: tests, and, or, chains, calls of what is built in, slices, methods of lists. -/
namespace KP
open PySem PySem.Spec PyProof.Rows L2
section
variable {Γ : Glob} {C : Cv} {k : Nat} {X : Cx} {W : WX} {cx : Cxt} {a b c e : Expr} {es : List Expr} {x y z : E} {xs : List E} {pos : Pos}
/-- a value's truth is what is computed -/
abbrev TruOk (Γ : Glob) (X : Cx) (W : WX) (cx : Cxt) : Prop := ∀ σ0, TruR X fun x H Q => ∃ w μ d, OkW Γ w μ H ∧ Rv Γ w x d ∧ postB Γ W σ0 w Q (trD cx d μ)
abbrev rdT (Γ : Glob) (W : WX) (cx : Cxt) (x : E) : TT := rdB Γ W (fun ρ μ => evb cx x ρ μ)
def trF (cx : Cxt) : List D → Rho → Mu → R Bool
  | [d], _, μ => trD cx d μ
  | _, _, _ => .stuck
theorem tplain_eval {σ : St} {H : Hp} {Q : Bool → Hp → Prop} (hp : x.plain = true) (h : rdT Γ W cx x σ H Q) : rdE Γ W (ev cx x) σ H fun v H1 => ∃ w μ d, OkW Γ w μ H1 ∧ Rv Γ w v d ∧ postB Γ W σ w Q (trD cx d μ) := by
  have h1 : RDB Γ W [] (fun ds ρ μ => (ev cx x ρ μ).bind fun d μ => trF cx (ds ++ [d]) ρ μ) σ H Q := by
    obtain ⟨w, ρ, μ, ds, g, rv, p⟩ := h
    refine ⟨w, ρ, μ, [], g, trivial, ?_⟩
    simp only [evb_plain hp] at p
    exact p
  refine rdE.mono (RDB.eval (f := trF cx) h1) fun v H1 h2 => ?_
  obtain ⟨w, ρ, μ, ds, g, rv, p⟩ := h2
  obtain ⟨d, rfl, r⟩ := rv.one
  exact ⟨w, μ, d, g.ok, r, p⟩
theorem st_plain (ht : TruOk Γ X W cx) (hp : x.plain = true) (he : ∀ whole, isTrue a X.env whole = (do let v ← whole; standAt a.pos; holding [v] (truthy v))) (ha : PE X a (rdE Γ W (ev cx x))) : PT X a (rdT Γ W cx x) :=
  ⟨fun pins s σ H Q I h => (pt_truthR ha (ht σ) he).run pins s σ H Q I (tplain_eval hp h)⟩
/-! comparisons as tests -/
def BlOp (cx : Cxt) (o : Op) : Prop := ∀ ds μ d μ', opD cx o ds μ = .ok d μ' → ∃ k, d = .bl k
theorem ro_test {o : Op} (hb : BlOp cx o) {σ : St} {vs : List V} {H : Hp} {Q : Bool → Hp → Prop} {w : Wd} {μ : Mu} {ds : List D} (ok : OkW Γ w μ H) (rv : Rvs Γ w vs ds) (p : postB Γ W σ w Q ((opD cx o ds μ).bind fun d μ => trD cx d μ)) :
    RO Γ W σ vs (fun ds μ => opD cx o ds μ) H fun z H' => ∃ k, z = .bl k ∧ Q k H' := by
  refine ⟨w, μ, ds, ok, rv, ?_⟩
  dsimp only
  cases e : opD cx o ds μ with
  | ok d μ' =>
    obtain ⟨k, rfl⟩ := hb _ _ _ _ e
    rw [e] at p
    exact fun w1 v H1 le ok1 r => ⟨k, r.bl_, p w1 H1 le ok1⟩
  | exc c ns vs μ' => rw [e] at p; exact p
  | stuck => rw [e] at p; exact p
theorem st_cmp {op : CmpOp} {o : Op} (hn : o ≠ .not) (hbl : BlOp cx o) (ho : ∀ σ0, Op2 Γ X W σ0 cx o (compareOp op)) (hm : behindInMarks op b = false) (hx : x.isSt = false) (hy : y.isSt = false) (ha : PE X a (rdE Γ W (ev cx x))) (hb : PE X b (rdE Γ W (ev cx y))) :
    PT X (.Compare a [op] [b] pos) (rdT Γ W cx (.op o [x, y])) := by
  refine ⟨fun pins s σ H Q I h => (pt_cmpR (ho σ) ha hb hm).run pins s σ H Q I ?_⟩
  have h1 : RDB Γ W [] (fun ds ρ μ => (ev cx x ρ μ).bind fun d μ => (ev cx y ρ μ).bind fun e μ => (opD cx o (ds ++ [d] ++ [e]) μ).bind fun d μ => trD cx d μ) σ H Q := by
    obtain ⟨w, ρ, μ, ds, g, rv, p⟩ := h
    refine ⟨w, ρ, μ, [], g, trivial, ?_⟩
    simp only [evb_plain (e := .op o [x, y]) (decide_eq_true hn), ev_op hn, evs_cons hx, evs_cons hy, evs_nil, R.bind_assoc, R.ok_bind] at p
    exact p
  refine rdE.mono (RDB.eval (f := fun ds ρ μ => (ev cx y ρ μ).bind fun e μ => (opD cx o (ds ++ [e]) μ).bind fun d μ => trD cx d μ) h1) fun v H1 h2 => ?_
  refine rdE.mono (RDB.eval (f := fun ds (_ : Rho) μ => (opD cx o ds μ).bind fun d μ => trD cx d μ) h2) fun u H2 h3 => ?_
  obtain ⟨w, ρ, μ, ds, g, rv, p⟩ := h3
  exact ro_test hbl g.ok rv p
theorem st_isN (hx : x.isSt = false) {j : Nat} {p2 : Pos} (ha : PE X a (rdE Γ W (ev cx x))) : PT X (.Compare a [.Is] [.Constant .none j p2] pos) (rdT Γ W cx (.op .isN [x])) := by
  refine ⟨fun pins s σ H Q I h => (pt_cmpR (o_isN (W := W) (σ0 := σ) (cx := cx) (Γ := Γ)) ha pe_non (nomark _)).run pins s σ H Q I ?_⟩
  have h1 : RDB Γ W [] (fun ds ρ μ => (ev cx x ρ μ).bind fun d μ => (opD cx .isN (ds ++ [d]) μ).bind fun d μ => trD cx d μ) σ H Q := by
    obtain ⟨w, ρ, μ, ds, g, rv, p⟩ := h
    refine ⟨w, ρ, μ, [], g, trivial, ?_⟩
    simp only [evb_plain (e := .op .isN [x]) rfl, ev_op (o := .isN) (by simp), evs_cons hx, evs_nil, R.bind_assoc, R.ok_bind] at p
    exact p
  refine rdE.mono (RDB.eval (f := fun ds (_ : Rho) μ => (opD cx .isN ds μ).bind fun d μ => trD cx d μ) h1) fun v H1 h3 => ⟨rfl, ?_⟩
  obtain ⟨w, ρ, μ, ds, g, rv, p⟩ := h3
  obtain ⟨d, rfl, r⟩ := rv.one
  refine ro_test (fun ds μ d μ' e => ?_) g.ok rv p
  rcases ds with _ | ⟨a, _ | ⟨b, t⟩⟩
  · cases e
  · cases e; exact ⟨_, rfl⟩
  · cases e
theorem st_notN (hx : x.isSt = false) {j : Nat} {p2 : Pos} (ha : PE X a (rdE Γ W (ev cx x))) : PT X (.Compare a [.IsNot] [.Constant .none j p2] pos) (rdT Γ W cx (.op .notN [x])) := by
  refine ⟨fun pins s σ H Q I h => (pt_cmpR (o_notN (W := W) (σ0 := σ) (cx := cx) (Γ := Γ)) ha pe_non (nomark _)).run pins s σ H Q I ?_⟩
  have h1 : RDB Γ W [] (fun ds ρ μ => (ev cx x ρ μ).bind fun d μ => (opD cx .notN (ds ++ [d]) μ).bind fun d μ => trD cx d μ) σ H Q := by
    obtain ⟨w, ρ, μ, ds, g, rv, p⟩ := h
    refine ⟨w, ρ, μ, [], g, trivial, ?_⟩
    simp only [evb_plain (e := .op .notN [x]) rfl, ev_op (o := .notN) (by simp), evs_cons hx, evs_nil, R.bind_assoc, R.ok_bind] at p
    exact p
  refine rdE.mono (RDB.eval (f := fun ds (_ : Rho) μ => (opD cx .notN ds μ).bind fun d μ => trD cx d μ) h1) fun v H1 h3 => ⟨rfl, ?_⟩
  obtain ⟨w, ρ, μ, ds, g, rv, p⟩ := h3
  obtain ⟨d, rfl, r⟩ := rv.one
  refine ro_test (fun ds μ d μ' e => ?_) g.ok rv p
  rcases ds with _ | ⟨a, _ | ⟨b, t⟩⟩
  · cases e
  · cases e; exact ⟨_, rfl⟩
  · cases e
/-! not, and, or, if -/
theorem RDB.ok_ {W : WX} {vs : List V} {σ : St} {H : Hp} {Q : Bool → Hp → Prop} {r : Bool} (h : RDB Γ W vs (fun _ _ μ => .ok r μ) σ H Q) : Q r H := by
  obtain ⟨w, ρ, μ, ds, g, rv, p⟩ := h
  exact p w H w.refl g.ok
theorem st_not (ha : PT X a (rdT Γ W cx x)) : PT X (.UnaryOp .Not a pos) (rdT Γ W cx (.op .not [x])) := by
  refine ⟨fun pins s σ H Q I h => (pt_not ha).run pins s σ H Q I ?_⟩
  have h1 : RDB Γ W [] (fun ds ρ μ => (evb cx x ρ μ).bind fun k μ => .ok (!k) μ) σ H Q := by
    obtain ⟨w, ρ, μ, ds, g, rv, p⟩ := h
    refine ⟨w, ρ, μ, [], g, trivial, ?_⟩
    simp only [evb_not] at p
    exact p
  exact rdB.mono (RDB.test (f := fun k _ (_ : Rho) μ => .ok (!k) μ) h1) fun k H1 h2 => RDB.ok_ h2
theorem s_not (ha : PT X a (rdT Γ W cx x)) (he : eval (.UnaryOp .Not a pos) X.env = eval (.UnaryOp .Not a pos) X.env := by rfl) (hv : PE X a (rdE Γ W (ev cx x))) (hp : ∀ ρ μ, evb cx x ρ μ = (ev cx x ρ μ).bind fun d μ => trD cx d μ) (ht : TruOk Γ X W cx) : PE X (.UnaryOp .Not a pos) (rdE Γ W (ev cx (.op .not [x]))) := by
  refine ⟨fun pins s σ H Q I h => ?_⟩
  have h1 : RD Γ W [] (fun ds ρ μ => (ev cx x ρ μ).bind fun d μ => (fun ds (_ : Rho) μ => (trF cx ds [] μ).bind fun k μ => .ok (.bl (!k)) μ) (ds ++ [d]) ρ μ) σ H Q := by
    obtain ⟨w, ρ, μ, ds, g, rv, p⟩ := h
    refine ⟨w, ρ, μ, [], g, trivial, ?_⟩
    simp only [ev_not, hp, R.bind_assoc] at p
    exact p
  refine UnaryOp_ (thn (hv.run pins s σ H _ I (RD.eval (f := fun ds (_ : Rho) μ => (trF cx ds [] μ).bind fun k μ => .ok (.bl (!k)) μ) h1)) fun v s1 h2 => ?_)
  obtain ⟨u, H1, I1, r1, w, ρ, μ, ds, g, rv, p⟩ := h2
  obtain ⟨d, rfl, r⟩ := rv.one
  refine not_of (thn (ht σ pins s1 σ H1 u v (fun k H2 => Q (.bl (!k)) H2) I1 r1 ⟨w, μ, d, g.ok, r, ?_⟩) fun k s2 ⟨H2, I2, q2⟩ => ⟨.bl (!k), H2, I2, rfl, q2⟩)
  simp only [trF] at p
  revert p
  generalize trD cx d μ = r2
  intro p
  cases r2 with
  | ok k μ2 => exact fun w2 H2 le ok => p w2 _ H2 le ok (.val (.bl _))
  | exc c ns vs μ2 => exact p
  | stuck => exact p
theorem st_and {rest : List Expr} (ha : PT X a (rdT Γ W cx x)) (hb : PW X (.BoolOp .And (b :: rest) pos) (rdT Γ W cx y)) : PW X (.BoolOp .And (a :: b :: rest) pos) (rdT Γ W cx (.and x y)) := by
  refine ⟨fun wh pins s σ H Q I h => (pw_and ha hb).run wh pins s σ H Q I ?_⟩
  have h1 : RDB Γ W [] (fun ds ρ μ => (evb cx x ρ μ).bind fun k μ => match k with
      | true => evb cx y ρ μ
      | false => .ok false μ) σ H Q := by
    obtain ⟨w, ρ, μ, ds, g, rv, p⟩ := h
    refine ⟨w, ρ, μ, [], g, trivial, ?_⟩
    simp only [evb_and] at p
    exact p
  refine rdB.mono (RDB.test (f := fun k _ ρ μ => match k with
      | true => evb cx y ρ μ
      | false => .ok false μ) h1) fun k H1 h2 => ?_
  cases k with
  | true => exact h2
  | false => exact RDB.ok_ h2
theorem st_or {rest : List Expr} (ha : PT X a (rdT Γ W cx x)) (hb : PW X (.BoolOp .Or (b :: rest) pos) (rdT Γ W cx y)) : PW X (.BoolOp .Or (a :: b :: rest) pos) (rdT Γ W cx (.or x y)) := by
  refine ⟨fun wh pins s σ H Q I h => (pw_or ha hb).run wh pins s σ H Q I ?_⟩
  have h1 : RDB Γ W [] (fun ds ρ μ => (evb cx x ρ μ).bind fun k μ => match k with
      | true => .ok true μ
      | false => evb cx y ρ μ) σ H Q := by
    obtain ⟨w, ρ, μ, ds, g, rv, p⟩ := h
    refine ⟨w, ρ, μ, [], g, trivial, ?_⟩
    simp only [evb_or] at p
    exact p
  refine rdB.mono (RDB.test (f := fun k _ ρ μ => match k with
      | true => .ok true μ
      | false => evb cx y ρ μ) h1) fun k H1 h2 => ?_
  cases k with
  | false => exact h2
  | true => exact RDB.ok_ h2
theorem s_and {rest : List Expr} (ht : TruOk Γ X W cx) (ha : PE X a (rdE Γ W (ev cx x))) (hb : PE X (.BoolOp .And (b :: rest) pos) (rdE Γ W (ev cx y))) : PE X (.BoolOp .And (a :: b :: rest) pos) (rdE Γ W (ev cx (.and x y))) := by
  refine ⟨fun pins s σ H Q I h => ?_⟩
  have h1 : RD Γ W [] (fun ds ρ μ => (ev cx x ρ μ).bind fun d μ => (fun ds ρ μ => (trF cx ds ρ μ).bind fun k μ => match k with
      | true => ev cx y ρ μ
      | false => .ok (ds.headD .non) μ) (ds ++ [d]) ρ μ) σ H Q := by
    obtain ⟨w, ρ, μ, ds, g, rv, p⟩ := h
    refine ⟨w, ρ, μ, [], g, trivial, ?_⟩
    simp only [ev_and] at p
    exact p
  refine BoolOp_and (thn (ha.run pins s σ H _ I (RD.eval (f := fun ds ρ μ => (trF cx ds ρ μ).bind fun k μ => match k with
      | true => ev cx y ρ μ
      | false => .ok (ds.headD .non) μ) h1)) fun v s1 h2 => ?_)
  obtain ⟨u, H1, I1, r1, w, ρ, μ, ds, g, rv, p⟩ := h2
  obtain ⟨d, rfl, r⟩ := rv.one
  refine thn (ht σ pins s1 σ H1 u v (fun k H2 => if k = true then rdE Γ W (ev cx y) σ H2 Q else Q u H2) I1 r1 ⟨w, μ, d, g.ok, r, ?_⟩) fun k s2 ⟨H2, I2, q2⟩ => ?_
  · simp only [trF, List.headD_cons] at p
    revert p
    generalize trD cx d μ = r2
    intro p
    cases r2 with
    | ok k μ2 =>
      cases k with
      | true => exact fun w2 H2 le ok => ⟨w2, ρ, μ2, [], ⟨g.st.mono le, ok⟩, trivial, postE.mono le p⟩
      | false => exact fun w2 H2 le ok => p w2 u H2 le ok (r.mono le)
    | exc c ns vs μ2 => exact p
    | stuck => exact p
  · cases k with
    | true => exact hb.run pins s2 σ H2 Q I2 q2
    | false => exact ⟨u, H2, I2, r1, q2⟩
theorem s_or {rest : List Expr} (ht : TruOk Γ X W cx) (ha : PE X a (rdE Γ W (ev cx x))) (hb : PE X (.BoolOp .Or (b :: rest) pos) (rdE Γ W (ev cx y))) : PE X (.BoolOp .Or (a :: b :: rest) pos) (rdE Γ W (ev cx (.or x y))) := by
  refine ⟨fun pins s σ H Q I h => ?_⟩
  have h1 : RD Γ W [] (fun ds ρ μ => (ev cx x ρ μ).bind fun d μ => (fun ds ρ μ => (trF cx ds ρ μ).bind fun k μ => match k with
      | true => .ok (ds.headD .non) μ
      | false => ev cx y ρ μ) (ds ++ [d]) ρ μ) σ H Q := by
    obtain ⟨w, ρ, μ, ds, g, rv, p⟩ := h
    refine ⟨w, ρ, μ, [], g, trivial, ?_⟩
    simp only [ev_or] at p
    exact p
  refine BoolOp_or (thn (ha.run pins s σ H _ I (RD.eval (f := fun ds ρ μ => (trF cx ds ρ μ).bind fun k μ => match k with
      | true => .ok (ds.headD .non) μ
      | false => ev cx y ρ μ) h1)) fun v s1 h2 => ?_)
  obtain ⟨u, H1, I1, r1, w, ρ, μ, ds, g, rv, p⟩ := h2
  obtain ⟨d, rfl, r⟩ := rv.one
  refine thn (ht σ pins s1 σ H1 u v (fun k H2 => if k = true then Q u H2 else rdE Γ W (ev cx y) σ H2 Q) I1 r1 ⟨w, μ, d, g.ok, r, ?_⟩) fun k s2 ⟨H2, I2, q2⟩ => ?_
  · simp only [trF, List.headD_cons] at p
    revert p
    generalize trD cx d μ = r2
    intro p
    cases r2 with
    | ok k μ2 =>
      cases k with
      | false => exact fun w2 H2 le ok => ⟨w2, ρ, μ2, [], ⟨g.st.mono le, ok⟩, trivial, postE.mono le p⟩
      | true => exact fun w2 H2 le ok => p w2 u H2 le ok (r.mono le)
    | exc c ns vs μ2 => exact p
    | stuck => exact p
  · cases k with
    | false => exact hb.run pins s2 σ H2 Q I2 q2
    | true => exact ⟨u, H2, I2, r1, q2⟩
theorem s_ife (hc : PT X c (rdT Γ W cx z)) (ha : PE X a (rdE Γ W (ev cx x))) (hb : PE X b (rdE Γ W (ev cx y))) : PE X (.IfExp c a b pos) (rdE Γ W (ev cx (.ife z x y))) := by
  refine ⟨fun pins s σ H Q I h => (pe_ifExp hc ha hb).run pins s σ H Q I ?_⟩
  have h1 : RD Γ W [] (fun ds ρ μ => (evb cx z ρ μ).bind fun k μ => match k with
      | true => ev cx x ρ μ
      | false => ev cx y ρ μ) σ H Q := by
    obtain ⟨w, ρ, μ, ds, g, rv, p⟩ := h
    refine ⟨w, ρ, μ, [], g, trivial, ?_⟩
    simp only [ev_ife] at p
    exact p
  refine rdB.mono (RD.test (f := fun k _ ρ μ => match k with
      | true => ev cx x ρ μ
      | false => ev cx y ρ μ) h1) fun k H1 h2 => ?_
  cases k with
  | true => exact h2
  | false => exact h2
/-! a < b < c -/
def chnF (cx : Cxt) (o1 o2 : Op) (z : E) : List D → Rho → Mu → R D
  | [x, y], ρ, μ => (toB (opD cx o1 [x, y] μ)).bind fun k μ => match k with
    | true => (ev cx z ρ μ).bind fun z μ => opD cx o2 [y, z] μ
    | false => .ok (.bl false) μ
  | _, _, _ => .stuck
theorem s_chn {op1 op2 : CmpOp} {o1 o2 : Op} (hb1 : BlOp cx o1) (ho1 : ∀ σ0, Op2 Γ X W σ0 cx o1 (compareOp op1)) (ho2 : ∀ σ0, Op2 Γ X W σ0 cx o2 (compareOp op2)) (hm : behindInMarks op2 c = false) (ha : PE X a (rdE Γ W (ev cx x))) (hb : PE X b (rdE Γ W (ev cx y))) (hc : PE X c (rdE Γ W (ev cx z))) :
    ∀ {pins : List (Addr × Obj)} {σ : St} {H : Hp} {Q : VK}, rdE Γ W (ev cx (.chn o1 o2 x y z)) σ H Q → tChain (fun x y H Q => RO Γ W σ [x, y] (fun ds μ => opD cx o1 ds μ) H Q) (fun x y H Q => RO Γ W σ [x, y] (fun ds μ => opD cx o2 ds μ) H Q) (rdE Γ W (ev cx x)) (rdE Γ W (ev cx y)) (rdE Γ W (ev cx z)) σ H Q := by
  intro pins σ H Q h
  have h1 : RD Γ W [] (fun ds ρ μ => (ev cx x ρ μ).bind fun d μ => (ev cx y ρ μ).bind fun e μ => chnF cx o1 o2 z (ds ++ [d] ++ [e]) ρ μ) σ H Q := by
    obtain ⟨w, ρ, μ, ds, g, rv, p⟩ := h
    refine ⟨w, ρ, μ, [], g, trivial, ?_⟩
    simp only [ev_chn] at p
    exact p
  refine rdE.mono (RD.eval (f := fun ds ρ μ => (ev cx y ρ μ).bind fun e μ => chnF cx o1 o2 z (ds ++ [e]) ρ μ) h1) fun v H1 h2 => ?_
  refine rdE.mono (RD.eval (f := chnF cx o1 o2 z) h2) fun u H2 h3 => ?_
  obtain ⟨w, ρ, μ, ds, g, rv, p⟩ := h3
  obtain ⟨d1, d2, rfl, r1, r2⟩ := rv.two
  refine ⟨w, μ, [d1, d2], g.ok, rv, ?_⟩
  simp only [chnF] at p
  dsimp only
  cases e : opD cx o1 [d1, d2] μ with
  | ok d μ' =>
    obtain ⟨k, rfl⟩ := hb1 _ _ _ _ e
    rw [e] at p
    intro w1 v1 H1' le ok1 rk
    refine ⟨k, rk.bl_, ?_⟩
    cases k with
    | true =>
      show rdE Γ W (ev cx z) σ H1' _
      have h4 : RD Γ W [u] (fun ds ρ μ => (ev cx z ρ μ).bind fun z μ => opD cx o2 (ds ++ [z]) μ) σ H1' Q := ⟨w1, ρ, μ', [d2], ⟨g.st.mono le, ok1⟩, ⟨r2.mono le, trivial⟩, postE.mono le p⟩
      exact rdE.mono (RD.eval (f := fun ds (_ : Rho) μ => opD cx o2 ds μ) h4) fun t H4 h5 => h5.ro
    | false => exact p w1 _ _ le ok1 (.val (.bl _))
  | exc c ns vs μ' => rw [e] at p; exact p
  | stuck => rw [e] at p; exact p
end
end KP
end

section
set_option maxRecDepth 100000
set_option maxHeartbeats 4000000
/-! KP7: products, max and min, repr, texts, isinstance, list.index. -/
namespace KP
open PySem PySem.Spec PyProof.Rows L2
section
variable {Γ : Glob} {X : Cx} {W : WX} {σ0 : St} {cx : Cxt}
/-! products -/
theorem Rps.rep {Φ : Hp} {vs : List V} {ds : List D} (r : Rps Γ Φ vs ds) : ∀ n : Nat, Rps Γ Φ (List.replicate n vs).flatten (List.replicate n ds).flatten
  | 0 => .nil
  | n + 1 => by
    rw [List.replicate_succ, List.replicate_succ, List.flatten_cons, List.flatten_cons]
    exact r.app (Rps.rep r n)
theorem tup_mul1 (l : Addr) (items : Array Value) (n : Nat) (dd : Option Addr) (sl : Array (Option Value)) (x : Int) (u : Tok) (c0 : (decide (x < -(2 ^ 63)) || decide (x ≥ 2 ^ 63)) = false) (c1 : (items.isEmpty || x == 1) = true) :
    Meets (Builtin.«tuple.__mul__» ⟨[.ref l, .int x u], []⟩) (fun _ R s => s.heap.get? l = some { cls := .type "tuple", dict := dd, data := .seq items n, slots := sl } ∧ R (.ok (.ret (.ref l))) s) :=
  .of_wp fun prog w A R s h => by
    obtain ⟨hp, g, d, tk, os⟩ := s
    obtain ⟨hl, h⟩ := h
    have f1 := AutoSeq1.idx_int
    wp_walk using wpAny_loadPart' hl
    repeat (first
      | (refine wpAny_ite_false (decide_eq_false (by rw [c0]; exact Bool.false_ne_true)) ?_; wp_walk using wpAny_loadPart' hl)
      | (refine wpAny_ite_true (decide_eq_true (by rw [c1])) ?_; wp_walk using wpAny_loadPart' hl))
    exact ⟨_, rfl, h⟩
theorem tup_mul0 (l : Addr) (items : Array Value) (n : Nat) (dd : Option Addr) (sl : Array (Option Value)) (x : Int) (u : Tok) (c0 : (decide (x < -(2 ^ 63)) || decide (x ≥ 2 ^ 63)) = false) (c1 : (items.isEmpty || x == 1) = false) (c2 : (decide (x ≤ 0) || items.isEmpty) = true) :
    Meets (Builtin.«tuple.__mul__» ⟨[.ref l, .int x u], []⟩) (fun _ R s => s.heap.get? l = some { cls := .type "tuple", dict := dd, data := .seq items n, slots := sl } ∧
      R (.ok (.ret (Value.ref s.heap.objs.size))) { s with heap := s.heap.push { cls := Value.type "tuple", data := Data.seq #[] }, toks := s.toks }) :=
  .of_wp fun prog w A R s h => by
    obtain ⟨hp, g, d, tk, os⟩ := s
    obtain ⟨hl, h⟩ := h
    have f1 := AutoSeq1.idx_int
    wp_walk using wpAny_loadPart' hl
    repeat (first
      | (refine wpAny_ite_false (decide_eq_false (by rw [c0]; exact Bool.false_ne_true)) ?_; wp_walk using wpAny_loadPart' hl)
      | (refine wpAny_ite_false (decide_eq_false (by rw [c1]; exact Bool.false_ne_true)) ?_; wp_walk using wpAny_loadPart' hl)
      | (refine wpAny_ite_true (decide_eq_true (by rw [c2])) ?_; wp_walk using wpAny_loadPart' hl))
    exact ⟨_, rfl, h⟩
theorem op_times {pins : List (Addr × Obj)} {s : Shared} {σ : St} {H : Hp} {v : Value} {u : Value} {Q : VK} {l : Addr} {k : Int} {xs : List V} (I : Inv X pins σ H s) (rx : RelV (.ref l) v) (ry : RelV (.int k) u) (hT : SqT X.K H l xs)
    (hk : -1000 ≤ k ∧ k ≤ 1000) (hc : xs = [] ∨ k ≤ 1) (h1 : xs = [] ∨ k = 1 → Q (.ref l) H) (h0 : xs ≠ [] → k ≤ 0 → ∀ p o, TO o → H p = none → Q (.ref p) (upd H p (.frz o (.tup [])))) :
    wpAny (model X.prog X.w) X.A (binaryOp .Mult v u) (EP X pins σ Q) X.xe s := by
  cases rx
  obtain ⟨t, rfl⟩ := ry
  obtain ⟨its, r, ⟨⟨cls, dd, data, sl⟩, ho, hc, n, hd⟩, hs⟩ := I.tuple hT
  simp only at hc hd
  subst hc hd
  have hle : its.length = xs.length := r.length.symm
  have c0 : (decide (k < -(2 ^ 63)) || decide (k ≥ 2 ^ 63)) = false := by
    rw [decide_eq_false (by omega), decide_eq_false (by omega)] <;> rfl
  have go : ∀ {S}, Meets (Builtin.«tuple.__mul__» ⟨[.ref l, .int k t], []⟩) S → S X.A (wants (EP X pins σ Q) X.xe) s → wpAny (model X.prog X.w) X.A (binaryOp .Mult (.ref l) (.int k t)) (EP X pins σ Q) X.xe s := fun g h =>
    wpAny_binaryOp_repeat_ref (T := "tuple") (U := "int") (by decide) ⟨_, ho, rfl⟩ (fun s' => typeIs_int s' k t) noFill_tuple_mul F.fills_int_mul F.slot_int_rmul repeat_tuple F.slot_int_index.lookup
    (call_meets F.slot_int_rmul (typeIs_int s k t) F.entry_int_rmul (F.args_int_rmul_2 _ _) (int_rmul_tuple k t l its.toArray n dd sl)
      ⟨ho, rfl, ⟨_, ho, rfl⟩, call_meets F.slot_tuple_mul ⟨_, ho, rfl⟩ F.entry_tuple_mul (F.args_tuple_mul_2 _ _) g h⟩)
  by_cases hz : xs = [] ∨ k = 1
  · refine go (tup_mul1 l its.toArray n dd sl k t c0 ?_) ⟨ho, ⟨.ref l, H, I, rfl, h1 hz⟩⟩
    rcases hz with hz | hz
    · subst hz
      have : its = [] := List.eq_nil_of_length_eq_zero hle
      subst this; rfl
    · subst hz; simp
  · have hn : xs ≠ [] := fun e => hz (.inl e)
    have hk0 : k ≤ 0 := by
      rcases hc with e | e
      · exact absurd e hn
      · have : k ≠ 1 := fun e => hz (.inr e)
        omega
    have hi : its.toArray.isEmpty = false := by
      cases its with
      | nil => exact absurd (List.eq_nil_of_length_eq_zero hle.symm) hn
      | cons a b => rfl
    refine go (tup_mul0 l its.toArray n dd sl k t c0 ?_ ?_) ⟨ho, ?_⟩
    · rw [hi, Bool.false_or]
      exact beq_eq_false_iff_ne.mpr (fun e => hz (.inr e))
    · rw [decide_eq_true hk0, Bool.true_or]
    · exact newP (t' := s.toks) I .nil (Nat.zero_le _) (h0 hn hk0)
theorem rep_len {α : Type} (n : Nat) (xs : List α) : (List.replicate n xs).flatten.length = n * xs.length := by
  induction n with
  | zero => simp
  | succ n ih => rw [List.replicate_succ, List.flatten_cons, List.length_append, ih, Nat.succ_mul]; omega
theorem rep_size (x : Array Nat) : ∀ (n : Nat) (acc : Array Nat), ((List.replicate n x).foldl (· ++ ·) acc).size = acc.size + n * x.size
  | 0, acc => by simp
  | n + 1, acc => by
    rw [List.replicate_succ, List.foldl_cons, rep_size x n, Array.size_append, Nat.succ_mul]
    omega
theorem repS_len (x : Str) (k : Nat) : (repS x k).length = k * x.length := by
  show ((List.replicate k x.cps).foldl (· ++ ·) #[]).size = _
  rw [rep_size]
  simp [Str.length]
theorem op_mul_str : OpR X (binaryOp .Mult) (fun x y H Q => ∃ i k, x = .str i ∧ y = .int k ∧ (2 ≤ k ∧ k ≤ 10000 ∧ 1 ≤ i.length ∧ i.length ≤ 100) ∧ Q (.str (repS i k.toNat)) H) := by
  intro pins s σ H x y v u Q I rx ry h
  obtain ⟨i, k, rfl, rfl, ⟨k1, k2, l1, l2⟩, q⟩ := h
  obtain ⟨t, rfl⟩ := rx
  obtain ⟨t', rfl⟩ := ry
  have e1 : (k == 1 || i.length == 0) = false := by
    rw [Bool.or_eq_false_iff]
    exact ⟨beq_eq_false_iff_ne.mpr (by omega), beq_eq_false_iff_ne.mpr (by omega)⟩
  have hm : i.length * k.toNat ≤ 100 * 10000 := Nat.mul_le_mul l2 (by omega)
  refine P.mul_str (by rw [decide_eq_false (by omega), decide_eq_false (by omega)]; rfl) (fun _ _ => ?_) (fun _ _ => ?_) ?_
  · have : (i.length : Int) ≤ (2 ^ 63 - 1) / k := Int.le_ediv_of_mul_le (by omega) (by
      have a1 : (i.length : Int) * k ≤ 100 * 10000 := Int.mul_le_mul (by omega) k2 (by omega) (by omega)
      omega)
    omega
  · unfold Builtin.Str.tooLong
    refine decide_eq_false ?_
    rw [sizeLine_eq]
    omega
  · rw [if_neg (by omega), e1, if_neg (by simp)]
    refine ⟨?_, .str (repS i k.toNat), H, I.tok _, ⟨_, rfl⟩, q⟩
    show (repS i k.toNat).length ≤ sizeLine
    rw [repS_len, sizeLine_eq, Nat.mul_comm]
    omega
theorem o_mul {nw : Bool} (hK : Γ.K = X.K) : Op2N nw Γ X W σ0 cx .mul (binaryOp .Mult) := by
  intro pins s σ H x y v u Q I rx ry hh
  obtain ⟨w, μ, ds, ok, rv, p⟩ := hh
  obtain ⟨a, b, rfl, ra, rb⟩ := rv.two
  have p' : postE Γ W σ0 w Q (nwR nw (mulD a b μ)) := p
  unfold mulD at p'
  split at p'
  · split at p'
    · rename_i hc
      exact op_mul_str pins s σ H x y v u Q I rx ry ⟨_, _, ra.str_, rb.int_, hc, nw_vp p' ok (.str _) fun _ => rfl⟩
    · exact (nw_stuck p').elim
  · split at p'
    · rename_i hc
      exact op_mul pins s σ H x y v u Q I rx ry ⟨_, _, ra.int_, rb.int_, hc, nw_vp p' ok (.int _) fun _ => rfl⟩
    · exact (nw_stuck p').elim
  · rename_i zs k
    split at p'
    · rename_i hc
      obtain ⟨l, vs, e, hT, hR, hz⟩ := ra.tup_ ok
      rw [hK] at hT
      have hl := hR.len
      have ek := rb.int_
      subst e ek
      have hlen : (List.replicate k.toNat zs).flatten.length ≤ LN := by
        rw [rep_len]
        have a1 : k.toNat * zs.length ≤ 1000 * 1000 := Nat.mul_le_mul (by omega) hc.2.2
        exact Nat.le_trans a1 (by decide)
      refine op_times I rx ry hT ⟨hc.2.1, by omega⟩ (.inr hc.1) (fun h1 => ?_) (fun hn h0 => ?_)
      · have e : (List.replicate k.toNat zs).flatten = zs := by
          rcases h1 with h1 | h1
          · subst h1
            have : zs = [] := List.eq_nil_of_length_eq_zero hl.symm
            subst this
            simp
          · subst h1; simp
        rw [e] at p'
        exact nw_val p' ok ra fun _ => rfl
      · have e : (List.replicate k.toNat zs).flatten = [] := by
          rw [Int.toNat_of_nonpos h0]; rfl
        rw [e] at p'
        exact nw_newTup p' ok .nil (Nat.zero_le _)
    · exact (nw_stuck p').elim
  · rename_i k h0 h1 h2
    split at p'
    · rename_i zs hl
      split at p'
      · rename_i hc
        obtain ⟨l, vs, e, hT, hR⟩ := ra.lst_ ok hl
        have hlen : zs.length * k.toNat ≤ LN := by
          have a1 : zs.length * k.toNat ≤ 1000 * 1000 := Nat.mul_le_mul hc.2.2 (by omega)
          exact Nat.le_trans a1 (by decide)
        exact op_rep pins s σ H x y v u Q I rx ry ⟨l, k, vs, e, rb.int_, hT, by omega, by omega, by rw [hR.len]; exact hlen, nw_newLst p' ok (hR.rep _) (by rw [rep_len, Nat.mul_comm]; exact hlen)⟩
      · exact (nw_stuck p').elim
    · exact (nw_stuck p').elim
  · exact (nw_stuck p').elim
/-! max, min of a list or a tuple of ints -/
theorem foldl_max (r : List Int) : ∀ i : Int, (r.foldl max i ∈ i :: r) ∧ ∀ y ∈ i :: r, y ≤ r.foldl max i := by
  induction r with
  | nil => intro i; simp
  | cons a r ih =>
    intro i
    obtain ⟨h1, h2⟩ := ih (max i a)
    rw [List.foldl_cons]
    refine ⟨?_, fun y hy => ?_⟩
    · rcases List.mem_cons.mp h1 with h | h
      · rw [h]
        rcases Int.le_total i a with q | q
        · rw [Int.max_eq_right q]; simp
        · rw [Int.max_eq_left q]; simp
      · simp [h]
    · have hm := h2 (max i a) (by simp)
      rcases List.mem_cons.mp hy with h | h
      · subst h; exact Int.le_trans (Int.le_max_left _ _) hm
      · rcases List.mem_cons.mp h with h | h
        · subst h; exact Int.le_trans (Int.le_max_right _ _) hm
        · exact h2 y (by simp [h])
theorem foldl_min (r : List Int) : ∀ i : Int, (r.foldl min i ∈ i :: r) ∧ ∀ y ∈ i :: r, r.foldl min i ≤ y := by
  induction r with
  | nil => intro i; simp
  | cons a r ih =>
    intro i
    obtain ⟨h1, h2⟩ := ih (min i a)
    rw [List.foldl_cons]
    refine ⟨?_, fun y hy => ?_⟩
    · rcases List.mem_cons.mp h1 with h | h
      · rw [h]
        rcases Int.le_total i a with q | q
        · rw [Int.min_eq_left q]; simp
        · rw [Int.min_eq_right q]; simp
      · simp [h]
    · have hm := h2 (min i a) (by simp)
      rcases List.mem_cons.mp hy with h | h
      · subst h; exact Int.le_trans hm (Int.min_le_left _ _)
      · rcases List.mem_cons.mp h with h | h
        · subst h; exact Int.le_trans hm (Int.min_le_right _ _)
        · exact h2 y (by simp [h])
theorem intsOf_toPs : ∀ {xs : List D} {ns : List Int}, intsOf xs = some ns → toPs xs = ns.map .int
  | [], ns, h => by
    have e : [] = ns := Option.some.inj h
    subst e; rfl
  | x :: r, ns, h => by
    cases x with
    | int i =>
      have h' : (intsOf r).map (i :: ·) = some ns := h
      obtain ⟨ms, h1, h2⟩ := Option.map_eq_some_iff.mp h'
      subst h2
      rw [toPs, toP, intsOf_toPs h1]; rfl
    | _ => cases h
theorem intsOf_dat : ∀ {xs : List D} {ns : List Int}, intsOf xs = some ns → datL xs 1 = true
  | [], _, _ => by rw [datL]
  | x :: r, ns, h => by
    cases x with
    | int i =>
      have h' : (intsOf r).map (i :: ·) = some ns := h
      obtain ⟨ms, h1, h2⟩ := Option.map_eq_some_iff.mp h'
      rw [datL, intsOf_dat h1, dat]; rfl
    | _ => cases h
theorem ints2_of {xs : List D} {i : Int} {r : List Int} (h : ints2 xs = some (i, r)) : intsOf xs = some (i :: r) := by
  unfold ints2 at h
  split at h
  · rename_i j q e
    cases h; exact e
  · cases h
theorem alike_ints (i : Int) (r : List Int) : PySem.W.AlikeAll (.int i :: r.map .int) := by
  have e : (PyData.int i :: r.map .int) = (i :: r).map .int := rfl
  rw [e]
  refine ⟨fun x hx y hy => ?_, fun x hx => ?_⟩
  · obtain ⟨a, _, rfl⟩ := List.mem_map.mp hx
    obtain ⟨b, _, rfl⟩ := List.mem_map.mp hy
    simp [PySem.W.alike]
  · obtain ⟨a, _, rfl⟩ := List.mem_map.mp hx
    exact fun e => by cases e
theorem depth_ints (r : List Int) : PyData.depthAll (r.map .int) = 0 := by
  induction r with
  | nil => simp [PyData.depthAll]
  | cons a r ih => simp [PyData.depthAll, PyData.depth, ih]
theorem o_ext1 {sgn : Op} {id : String} {g : Int → List Int → Int} (ho : ∀ a μ, opD cx sgn [a] μ = match seqOf μ a with
      | some xs => (match ints2 xs with
        | some (i, r) => .ok (.int (g i r)) μ
        | none => .stuck)
      | none => .stuck)
    (hl : ∀ {pins : List (Addr × Obj)} {s : Shared} {σ : St} {H : Hp} {Q : VK} {a : Addr} {its : List Value} {i : Int} {r : List Int} {as : List Addr}, Inv X pins σ H s → s.heap.IsList a its.toArray → ReadsAll s.heap its (.int i :: r.map .int) as → Q (.int (g i r)) H → wpAny (model X.prog X.w) X.A (call (.builtin id) [.ref a]) (EP X pins σ Q) X.xe s)
    (ht : ∀ {pins : List (Addr × Obj)} {s : Shared} {σ : St} {H : Hp} {Q : VK} {a : Addr} {its : List Value} {i : Int} {r : List Int} {as : List Addr}, Inv X pins σ H s → s.heap.IsTuple a its.toArray → ReadsAll s.heap its (.int i :: r.map .int) as → Q (.int (g i r)) H → wpAny (model X.prog X.w) X.A (call (.builtin id) [.ref a]) (EP X pins σ Q) X.xe s)
    (hn : ∀ μ, opD cx sgn [] μ = .stuck) (hK : Γ.K = X.K) :
    CallR X (.builtin id) fun xs H Q => xs.length = 1 ∧ RO Γ W σ0 xs (fun ds μ => opD cx sgn ds μ) H Q := by
  intro pins s σ H xs us Q I r hh
  obtain ⟨h1, w, μ, ds, ok, rv, p⟩ := hh
  have hd := rv.len
  rw [h1] at hd
  match ds, hd with
  | [a], _ =>
    obtain ⟨x, rfl, ra⟩ := rvs_one rv
    dsimp only at p
    rw [ho] at p
    split at p
    · rename_i ys hs
      split at p
      · rename_i i q hi
        have hi' := ints2_of hi
        have hD := intsOf_dat hi'
        have hP := intsOf_toPs hi'
        have q2 : Q (.int (g i q)) H := p.vp ok (.int _)
        rcases strSeq hs with ⟨z, rfl, rfl⟩ | hll
        · obtain ⟨l, vs, e, hT, hR, _⟩ := ra.tup_ ok
          subst e
          have dp := datL_dp ok z _ _ hD hR
          rw [hK] at hT dp
          obtain ⟨its, rvs, hT', _⟩ := I.tuple hT
          obtain ⟨as, ras⟩ := Dp.readsAll I _ _ _ dp rvs
          rw [hP] at ras
          rw [Vals.ref1 r]
          exact ht I hT' ras q2
        · obtain ⟨l, vs, e, hT, hR⟩ := ra.lst_ ok hll
          subst e
          have dp := datL_dp ok ys _ _ hD hR
          rw [hK] at dp
          obtain ⟨its, rvs, hT', _⟩ := I.list (SqL.of hT)
          obtain ⟨as, ras⟩ := Dp.readsAll I _ _ _ dp rvs
          rw [hP] at ras
          rw [Vals.ref1 r]
          exact hl I hT'.isList ras q2
      · exact p.elim
    · exact p.elim
theorem reads_int {h : Heap} {v : Value} {i : Int} {bs : List Addr} (r : Reads h v (.int i) bs) : ∃ t, v = .int i t := by
  cases r; exact ⟨_, rfl⟩
theorem o_max1 {k : Nat} (hK : Γ.K = X.K) (hr : Room k X.A) (hc : X.calm = true) : CallR X (.builtin "max") fun xs H Q => xs.length = 1 ∧ RO Γ W σ0 xs (fun ds μ => opD cx .max1 ds μ) H Q := by
  refine o_ext1 (g := fun i r => r.foldl max i) (fun _ _ => rfl) ?_ ?_ (fun _ => rfl) hK
  all_goals
    intro pins s σ H Q a its i r as I hl ra q
    have hu : X.A.units + 1 + PyData.depthAll (.int i :: r.map .int) < cLine := by
      have := hr.un
      have e : PyData.depthAll (.int i :: r.map .int) = 0 := depth_ints (i :: r)
      rw [e]; omega
  · refine PySem.W.max_list_data (I.ok.hd hc) hl (by simpa using ra) (alike_ints i r) hu fun j v h' tk bs hj rv hk => ?_
    rw [PySem.W.maxD_ints] at rv
    obtain ⟨t, rfl⟩ := reads_int rv
    exact ⟨.int _, H, I.kept hk, ⟨_, rfl⟩, q⟩
  · refine PySem.W.max_tuple_data (I.ok.hd hc) hl (by simpa using ra) (alike_ints i r) hu fun j v h' tk bs hj rv hk => ?_
    rw [PySem.W.maxD_ints] at rv
    obtain ⟨t, rfl⟩ := reads_int rv
    exact ⟨.int _, H, I.kept hk, ⟨_, rfl⟩, q⟩
theorem o_min1 {k : Nat} (hK : Γ.K = X.K) (hr : Room k X.A) (hc : X.calm = true) : CallR X (.builtin "min") fun xs H Q => xs.length = 1 ∧ RO Γ W σ0 xs (fun ds μ => opD cx .min1 ds μ) H Q := by
  refine o_ext1 (g := fun i r => r.foldl min i) (fun _ _ => rfl) ?_ ?_ (fun _ => rfl) hK
  all_goals
    intro pins s σ H Q a its i r as I hl ra q
    have hu : X.A.units + 1 + PyData.depthAll (.int i :: r.map .int) < cLine := by
      have := hr.un
      have e : PyData.depthAll (.int i :: r.map .int) = 0 := depth_ints (i :: r)
      rw [e]; omega
  · refine PySem.W.min_list_data (I.ok.hd hc) hl (by simpa using ra) (alike_ints i r) hu fun j v h' tk bs hj rv hk => ?_
    rw [PySem.W.minD_ints] at rv
    obtain ⟨t, rfl⟩ := reads_int rv
    exact ⟨.int _, H, I.kept hk, ⟨_, rfl⟩, q⟩
  · refine PySem.W.min_tuple_data (I.ok.hd hc) hl (by simpa using ra) (alike_ints i r) hu fun j v h' tk bs hj rv hk => ?_
    rw [PySem.W.minD_ints] at rv
    obtain ⟨t, rfl⟩ := reads_int rv
    exact ⟨.int _, H, I.kept hk, ⟨_, rfl⟩, q⟩
/-! repr -/
theorem o_repr {k : Nat} (hK : Γ.K = X.K) (hr : Room k X.A) (hg : X.A.guards = some []) : OpC Γ X W σ0 cx .repr (.builtin "repr") := by
  intro pins s σ H xs us Q I r hh
  obtain ⟨w, μ, ds, ok, rv, p⟩ := hh
  rcases ds with _ | ⟨a, _ | ⟨b, t⟩⟩
  · exact (show False from p).elim
  · obtain ⟨x, rfl, ra⟩ := rvs_one rv
    have p' : postE Γ W σ0 w Q (match reprD (nrm μ a) with
      | some x => .ok (.str x) μ
      | none => .stuck) := p
    split at p'
    · rename_i z hz
      unfold reprD at hz
      split at hz
      · rename_i hc
        rw [Bool.and_eq_true, Bool.and_eq_true, decide_eq_true_eq] at hc
        obtain ⟨⟨h1, h2⟩, h3⟩ := hc
        have ez := Option.some.inj hz
        have q : Q (.str z) H := p'.vp ok (.str _)
        have qa := ra.nrm_ ok h1
        rw [hK] at qa
        obtain ⟨u, rfl, ru⟩ := vals1 r
        obtain ⟨as, rd⟩ := Dp.reads I _ _ _ qa ru
        have hsh := dat_shape _ _ h1
        have hnd : (toP (nrm μ a)).hasDict = false := PyData.hasDict_of_canLay _ hsh.1
        have hun := hr.un
        rw [← ez] at q
        have q1 : ∀ (h' : Heap) (u : Tok) (tk : Nat), (∀ b o, s.heap.get? b = some o → h'.get? b = some o) → EP X pins σ Q (.str (toP (nrm μ a)).shown u) { s with heap := h', toks := tk } := fun h' u tk hk => ⟨.str _, H, I.kept hk, ⟨_, rfl⟩, q⟩
        generalize toP (nrm μ a) = d at *
        cases rd with
        | none => exact PySem.P.repr_of_none (q1 _ _ _ fun _ _ e => e)
        | bool b => exact PySem.P.repr_of_bool (q1 _ _ _ fun _ _ e => e)
        | int i t => exact PySem.P.repr_of_int (of_decide_eq_true h2) (q1 _ _ _ fun _ _ e => e)
        | str x t => exact PySem.P.repr_of_str (q1 _ _ _ fun _ _ e => e) h3
        | list a1 a2 a3 a4 => exact PySem.repr_of_reads' (.list a1 a2 a3 a4) h2 (PyData.noDict_hsm hnd) hg (by omega) (fun _ _ e => e) q1 h3
        | tuple a1 a2 a3 a4 => exact PySem.repr_of_reads' (.tuple a1 a2 a3 a4) h2 (PyData.noDict_hsm hnd) hg (by omega) (fun _ _ e => e) q1 h3
        | dict => cases hnd
      · cases hz
    · exact p'.elim
  · exact (show False from p).elim
/-! texts -/
theorem o_tos : OpC Γ X W σ0 cx .tos (.type "str") := by
  intro pins s σ H xs us Q I r hh
  obtain ⟨w, μ, ds, ok, rv, p⟩ := hh
  rcases ds with _ | ⟨a, _ | ⟨b, t⟩⟩
  · exact (show False from p).elim
  · obtain ⟨x, rfl, ra⟩ := rvs_one rv
    cases a <;> first | exact (show False from p).elim | skip
    rename_i i
    have p' : postE Γ W σ0 w Q (if i.natAbs.log2 < 1920 then .ok (.str (toString i)) μ else .stuck) := p
    split at p'
    · rename_i hz
      exact call_str_int pins s σ H _ us Q I r ⟨i, by rw [ra.int_], hz, p'.vp ok (.str _)⟩
    · exact p'.elim
  · cases a <;> exact (show False from p).elim
theorem rps_strs {Φ : Hp} : ∀ (ns : List Str), Rps Γ Φ (ns.map V.str) (ns.map D.str)
  | [] => .nil
  | _ :: r => .cons (.str _) (rps_strs r)
theorem o_join (hK : Γ.K = X.K) : OpM Γ X W σ0 cx .join "str.join" := by
  intro pins s σ H x xs v us Q I rx rxs hh
  obtain ⟨w, μ, ds, ok, rv, p⟩ := hh
  rcases ds with _ | ⟨a, ds⟩
  · exact (show False from p).elim
  rcases ds with _ | ⟨b, _ | ⟨c, t⟩⟩
  · cases a <;> exact (show False from p).elim
  · obtain ⟨y, rfl, rb⟩ := rvs_one rv.2
    have ra := rv.1
    cases a <;> first | exact (show False from p).elim | skip
    rename_i z
    have p' : postE Γ W σ0 w Q (match seqOf μ b with
    | some xs => (match strsOf xs with
      | some ys => if (ys.map (·.length)).sum + ys.length * z.length ≤ LN then .ok (.str (Txt.join z ys)) μ else .stuck
      | none => .stuck)
    | none => .stuck) := p
    split at p'
    · rename_i ys hs
      split at p'
      · rename_i zs hz
        split at p'
        · rename_i hc
          obtain ⟨q, vs, e, hT, hR⟩ := rb.seq_ ok hs
          rw [hK] at hT
          have es := hR.strs hz
          subst es
          exact mt_join pins s σ H x [y] v us Q I rx rxs ⟨z, q, zs, ra.str_, by rw [e], hT.elim (fun h => .inl (SqL.of h)) .inr, hc, p'.vp ok (.str _)⟩
        · exact p'.elim
      · exact p'.elim
    · exact p'.elim
  · cases a <;> exact (show False from p).elim
theorem o_split {nw : Bool} : OpMN nw Γ X W σ0 cx .split "str.split" := by
  intro pins s σ H x xs v us Q I rx rxs hh
  obtain ⟨w, μ, ds, ok, rv, p⟩ := hh
  rcases ds with _ | ⟨a, ds⟩
  · exact (nw_stuck p).elim
  rcases ds with _ | ⟨b, _ | ⟨c, t⟩⟩
  · cases a <;> exact (nw_stuck p).elim
  · obtain ⟨y, rfl, rb⟩ := rvs_one rv.2
    have ra := rv.1
    cases a <;> first | exact (nw_stuck p).elim | skip
    cases b <;> first | exact (nw_stuck p).elim | skip
    rename_i z d
    have p' : postE Γ W σ0 w Q (nwR nw (if (d.length == 0) = false ∧ z.length + 2 ≤ LN ∧ (Txt.split z d).length ≤ LN then .ok (.lst ((Txt.split z d).map .str)) μ else .stuck)) := p
    split at p'
    · rename_i hc
      exact mt_split pins s σ H x [y] v us Q I rx rxs ⟨z, d, ra.str_, by rw [rb.str_], hc.1, hc.2.1, nw_newLst p' ok (rps_strs _) (by rw [List.length_map]; exact hc.2.2)⟩
    · exact (nw_stuck p').elim
  · cases a <;> cases b <;> exact (nw_stuck p).elim
/-! list.index -/
theorem idxOf_spec (d : D) : ∀ (xs : List D) (k j : Nat), idxOf? d xs k = some j → ∃ i x, j = k + i ∧ xs[i]? = some x ∧ eqv x d = true ∧ ∀ m y, m < i → xs[m]? = some y → eqv y d = false
  | [], _, _, h => by cases h
  | x :: r, k, j, h => by
    rw [idxOf?] at h
    split at h
    · rename_i hx
      cases h
      exact ⟨0, x, rfl, rfl, hx, fun m y hm _ => absurd hm (by omega)⟩
    · rename_i hx
      obtain ⟨i, y, h1, h2, h3, h4⟩ := idxOf_spec d r (k + 1) j h
      refine ⟨i + 1, y, by omega, h2, h3, fun m z hm e => ?_⟩
      cases m with
      | zero =>
        have e' : x = z := by simpa using e
        subst e'
        simpa using hx
      | succ m => exact h4 m z (by omega) e
theorem toPs_get : ∀ {xs : List D} {i : Nat} {x : D}, xs[i]? = some x → (toPs xs)[i]? = some (toP x)
  | [], _, _, h => by simp at h
  | x :: r, 0, y, h => by
    have e : x = y := by simpa using h
    subst e
    rw [toPs]; rfl
  | x :: r, i + 1, y, h => by
    rw [toPs]
    exact toPs_get (xs := r) (i := i) h
theorem toPs_get' : ∀ {xs : List D} {i : Nat} {z : PyData}, (toPs xs)[i]? = some z → ∃ x, xs[i]? = some x ∧ z = toP x
  | [], _, _, h => by rw [toPs] at h; simp at h
  | x :: r, 0, z, h => by
    rw [toPs] at h
    exact ⟨x, rfl, by simpa using h.symm⟩
  | x :: r, i + 1, z, h => by
    rw [toPs] at h
    exact toPs_get' (xs := r) (i := i) h
theorem datL_get : ∀ {xs : List D} {n i : Nat} {x : D}, datL xs n = true → xs[i]? = some x → dat x n = true
  | [], _, _, _, _, h => by simp at h
  | x :: r, n, 0, y, hd, h => by
    rw [datL, Bool.and_eq_true] at hd
    have e : x = y := by simpa using h
    subst e
    exact hd.1
  | x :: r, n, i + 1, y, hd, h => by
    rw [datL, Bool.and_eq_true] at hd
    exact datL_get (xs := r) (i := i) hd.2 h
theorem o_index {k : Nat} (hK : Γ.K = X.K) (hr : Room k X.A) : OpM Γ X W σ0 cx .index "list.index" := by
  intro pins s σ H x xs v us Q I rx rxs hh
  obtain ⟨w, μ, ds, ok, rv, p⟩ := hh
  rcases ds with _ | ⟨a, ds⟩
  · exact (show False from p).elim
  rcases ds with _ | ⟨b, _ | ⟨c, t⟩⟩
  · exact (show False from p).elim
  · obtain ⟨y, rfl, rb⟩ := rvs_one rv.2
    have ra := rv.1
    have p' : postE Γ W σ0 w Q (match lstOf μ a with
      | some xs => (match dat (nrm μ b) 60 && datL xs 60 with
        | true => (match idxOf? (nrm μ b) xs 0 with
          | some k => .ok (.int (k : Nat)) μ
          | none => .stuck)
        | false => .stuck)
      | none => .stuck) := p
    split at p'
    · rename_i ys hs
      split at p'
      · rename_i hd
        obtain ⟨h1, h2⟩ := Bool.and_eq_true_iff.mp hd
        split at p'
        · rename_i j hj
          obtain ⟨i, z, e, g1, g2, g3⟩ := idxOf_spec _ _ _ _ hj
          rw [Nat.zero_add] at e
          subst e
          obtain ⟨l, vs, e, hT, hR⟩ := ra.lst_ ok hs
          have qa := rb.nrm_ ok h1
          have ql : Dp Γ.K H (.ref l) (.list (toPs ys)) := .lst (SqL.of hT) (datL_dp ok ys _ _ h2 hR)
          rw [hK] at qa ql
          have hys := datL_shape ys _ h2
          have hsl : SeqAt.shaped (.list (toPs ys)) = true := by
            have e : toP (.lst ys) = .list (toPs ys) := by rw [toP]
            rw [← e]
            exact dat_shaped (n := 61) (by omega) (by rw [dat]; exact h2)
          refine mt_indexD hr.units65 pins s σ H x [y] v us Q I rx rxs ⟨l, y, toP (nrm μ b), toPs ys, j, toP z, e, rfl, ql, qa, hsl, dat_shaped (by omega) h1, toPs_get g1, ?_, fun m z' hm hz => ?_, p'.vp ok (.int _)⟩
          · rw [eqv_toP _ _ _ _ (datL_get h2 g1) h1]; exact g2
          · obtain ⟨z0, q1, q2⟩ := toPs_get' hz
            rw [q2, eqv_toP _ _ _ _ (datL_get h2 q1) h1]
            exact g3 m z0 hm q1
        · exact p'.elim
      · exact p'.elim
    · exact p'.elim
  · exact (show False from p).elim
/-! len -/
theorem o_lenA (hK : Γ.K = X.K) : OpC Γ X W σ0 cx .len (.builtin "len") := by
  intro pins s σ H xs us Q I r hh
  obtain ⟨w, μ, ds, ok, rv, p⟩ := hh
  rcases ds with _ | ⟨a, _ | ⟨b, t⟩⟩
  · exact (show False from p).elim
  · obtain ⟨x, rfl, ra⟩ := rvs_one rv
    have p' : postE Γ W σ0 w Q (lenD a μ) := p
    by_cases hd : ∃ ks vs, a = .dct ks vs
    · obtain ⟨ks, vs, rfl⟩ := hd
      have p2 : postE Γ W σ0 w Q (.ok (.int (ks.length : Nat)) μ) := p'
      cases ra.rp rfl with
      | dct e1 e2 =>
        rename_i l kvs
        rw [List.length_map] at p2
        exact call_lenD pins s σ H _ us Q I r ⟨l, kvs, rfl, ok.frz _ _ e1, p2.vp ok (.int _)⟩
    · exact o_len (σ0 := σ0) (W := W) hK pins s σ H _ us Q I r ⟨w, μ, a, x, rfl, ok, ra, fun ks vs e => hd ⟨ks, vs, e⟩, p'⟩
  · exact (show False from p).elim
end
end KP
end

section
set_option maxRecDepth 100000
set_option maxHeartbeats 4000000
/-! KPX: tuple.count, sorted(tuple), len(set(tuple)), of ints. -/
namespace KP
open PySem PySem.Spec PyProof.Rows L2
theorem setI_mem {x : Int} : ∀ {ns : List Int}, x ∈ setI ns ↔ x ∈ ns := by
  have ins : ∀ (y : Int) (l : List Int), x ∈ insI y l ↔ x = y ∨ x ∈ l := by
    intro y l
    induction l with
    | nil => simp [insI]
    | cons z r ih =>
      unfold insI
      split
      · simp
      · split
        · rename_i h1 h2
          subst h2
          simp
        · simp only [List.mem_cons, ih]
          constructor
          · rintro (h | h | h)
            · exact .inr (.inl h)
            · exact .inl h
            · exact .inr (.inr h)
          · rintro (h | h | h)
            · exact .inr (.inl h)
            · exact .inl h
            · exact .inr (.inr h)
  intro ns
  induction ns with
  | nil => simp [setI]
  | cons y r ih => rw [setI, ins, ih, List.mem_cons]
theorem setI_lt : ∀ ns : List Int, (setI ns).Pairwise (· < ·) := by
  have ins : ∀ (y : Int) (l : List Int), l.Pairwise (· < ·) → (insI y l).Pairwise (· < ·) ∧ ∀ b, b ∈ insI y l → b = y ∨ b ∈ l := by
    intro y l
    induction l with
    | nil => intro _; exact ⟨by simp [insI], by simp [insI]⟩
    | cons z r ih =>
      intro h
      rw [List.pairwise_cons] at h
      obtain ⟨i1, i2⟩ := ih h.2
      unfold insI
      split
      · rename_i q
        refine ⟨?_, fun b hb => by simpa using hb⟩
        rw [List.pairwise_cons]
        refine ⟨fun b hb => ?_, List.pairwise_cons.mpr h⟩
        rcases List.mem_cons.mp hb with rfl | hb
        · exact q
        · exact Int.lt_trans q (h.1 b hb)
      · split
        · rename_i q1 q2
          exact ⟨List.pairwise_cons.mpr h, fun b hb => .inr hb⟩
        · rename_i q1 q2
          refine ⟨?_, ?_⟩
          · rw [List.pairwise_cons]
            refine ⟨fun b hb => ?_, i1⟩
            rcases i2 b hb with rfl | hb
            · omega
            · exact h.1 b hb
          · intro b hb
            rcases List.mem_cons.mp hb with rfl | hb
            · exact .inr (by simp)
            · rcases i2 b hb with e | e
              · exact .inl e
              · exact .inr (List.mem_cons_of_mem _ e)
  intro ns
  induction ns with
  | nil => exact .nil
  | cons y r ih => exact (ins y _ ih).1
theorem sortI_perm : ∀ ns : List Int, (sortI ns).Perm ns := by
  have ins : ∀ (y : Int) (l : List Int), (insS y l).Perm (y :: l) := by
    intro y l
    induction l with
    | nil => exact .refl _
    | cons z r ih =>
      unfold insS
      split
      · exact .refl _
      · exact (ih.cons z).trans (.swap y z r)
  intro ns
  induction ns with
  | nil => exact .refl _
  | cons y r ih => exact (ins y _).trans (ih.cons y)
theorem sortI_le : ∀ ns : List Int, (sortI ns).Pairwise (· ≤ ·) := by
  have mem : ∀ (y : Int) (l : List Int) (b : Int), b ∈ insS y l → b = y ∨ b ∈ l := by
    intro y l
    induction l with
    | nil => simp [insS]
    | cons z r ih =>
      intro b hb
      unfold insS at hb
      split at hb
      · simpa using hb
      · rcases List.mem_cons.mp hb with rfl | hb
        · exact .inr (by simp)
        · rcases ih b hb with e | e
          · exact .inl e
          · exact .inr (List.mem_cons_of_mem _ e)
  have ins : ∀ (y : Int) (l : List Int), l.Pairwise (· ≤ ·) → (insS y l).Pairwise (· ≤ ·) := by
    intro y l
    induction l with
    | nil => intro _; simp [insS]
    | cons z r ih =>
      intro h
      rw [List.pairwise_cons] at h
      unfold insS
      split
      · rename_i q
        rw [List.pairwise_cons]
        refine ⟨fun b hb => ?_, List.pairwise_cons.mpr h⟩
        rcases List.mem_cons.mp hb with rfl | hb
        · exact q
        · exact Int.le_trans q (h.1 b hb)
      · rw [List.pairwise_cons]
        refine ⟨fun b hb => ?_, ih h.2⟩
        rcases mem y r b hb with rfl | hb
        · omega
        · exact h.1 b hb
  intro ns
  induction ns with
  | nil => exact .nil
  | cons y r ih => exact ins y _ ih
/-- what is in order is told by what it holds -/
theorem le_one : ∀ {xs ys : List Int}, xs.Perm ys → xs.Pairwise (· ≤ ·) → ys.Pairwise (· ≤ ·) → xs = ys
  | [], ys, p, _, _ => (List.Perm.nil_eq p)
  | x :: r, [], p, _, _ => by simpa using p.length_eq
  | x :: r, y :: t, p, h1, h2 => by
    rw [List.pairwise_cons] at h1 h2
    have e : x = y := by
      have m1 : x ∈ y :: t := p.subset (by simp)
      have m2 : y ∈ x :: r := p.symm.subset (by simp)
      rcases List.mem_cons.mp m1 with e | m1
      · exact e
      · rcases List.mem_cons.mp m2 with e | m2
        · exact e.symm
        · have := h1.1 y m2
          have := h2.1 x m1
          omega
    subst e
    rw [le_one p.cons_inv h1.2 h2.2]
theorem one_len {xs ys : List Int} (h1 : xs.Nodup) (h2 : ys.Nodup) (h : ∀ k, k ∈ xs ↔ k ∈ ys) : xs.length = ys.length := ((List.perm_ext_iff_of_nodup h1 h2).mpr h).length_eq
section
variable {prog : Program} {w : World} {A : Around} {E : Value → Shared → Prop} {s : Shared}
/-- a tuple's items are gathered -/
theorem gather_tup {p : Addr} {us : List Value} {R : List Value → Shared → Prop} (ht : s.heap.IsTuple p us.toArray) (hz : us.length ≤ sizeLine)
    (k : R us { s with heap := (s.heap.push (seqObj "list" #[] 0)).update s.heap.objs.size (Obj.mapSeq (· ++ us.toArray)) }) : wpAny (model prog w) A (collect (.ref p)) R E s := by
  obtain ⟨ob, g0, gc, m, gd⟩ := id ht
  unfold collect
  refine wpAny_bind (wpAny_runValue (codeAny_builtin entry_proto_collect' ?_))
  show wpAny _ _ (newList [] >>= fun l0 => again (.builtin "list.__iadd__" ⟨[l0, .ref p], []⟩)) _ _ s
  refine wpAny_bind (wpAny_newList (wpAny_pure ⟨Code.quiet_builtin _ (by decide +kernel), codeAny_builtin entry_list_iadd' ?_⟩))
  show wpAny _ _ (Builtin.List.listExtendWith (.ref s.heap.objs.size) (.ref p) (.ref s.heap.objs.size)) _ _ { s with heap := s.heap.push (seqObj "list" #[] 0) }
  unfold Builtin.List.listExtendWith
  have g1 : (s.heap.push (seqObj "list" #[] 0)).get? p = some ob := Heap.get?_push_of_some _ g0
  have new0 : (s.heap.push (seqObj "list" #[] 0)).get? s.heap.objs.size = some (seqObj "list" #[] 0) := Heap.get?_push_size _ rfl
  refine wpAny_bind (wpAny_typeOf (T := "tuple") ⟨ob, g1, gc⟩ ?_)
  have tt : (Value.type "tuple" == Value.type "tuple") = true := by rfl
  rw [if_pos (by rw [tt]; simp)]
  refine wpAny_bind (listItems_at g1 gd (wpAny_bind (listItems_at (xs := #[]) (n := 0) new0 rfl ?_)))
  rw [if_neg (by simp)]
  refine wpAny_bind (listUpdate_at (xs := #[]) (n := 0) new0 rfl ?_ (Nat.zero_le _) ?_)
  · refine wpAny_pure ?_
    show wpAny (model prog w) A (load s.heap.objs.size >>= fun o => match o.data with
      | .seq xs _ => pure xs.toList
      | _ => unsupported "internal:collect") R E { s with heap := (s.heap.push (seqObj "list" #[] 0)).update s.heap.objs.size (Obj.mapSeq (· ++ us.toArray)) }
    refine wpAny_bind (wpAny_load (get?_update_seq new0 _) ?_)
    have e : ((#[] : Array Value) ++ us.toArray).toList = us := by simp
    show wpAny _ _ (pure ((#[] : Array Value) ++ us.toArray).toList) R E _
    rw [e]
    exact wpAny_pure k
  · have e : ((#[] : Array Value) ++ us.toArray).size = us.length := by simp
    show ((#[] : Array Value) ++ us.toArray).size ≤ sizeLine + 1
    omega
/-- sorted(t), a tuple of ints -/
theorem sorted_tup {p : Addr} {us : List Value} {ms : List Int} {R : Value → Shared → Prop} (ht : s.heap.IsTuple p us.toArray) (hi : IntsAre us ms) (hz : us.length ≤ sizeLine)
    (k : ∀ (out : Array Value) (ms' : List Int), IntsAre out.toList ms' → ms'.Perm ms → ms'.Pairwise (· ≤ ·) → R (.ref (s.heap.objs.size + 1)) { s with heap := sortedAll s.heap us out }) :
    wpAny (model prog w) A (call (.builtin "sorted") [.ref p]) R E s := by
  refine Calls.call_function_entry kind_sorted plain_sorted entry_sorted (args_sorted1 _) ?_
  unfold Builtin.«sorted»
  refine wpAny_bind (m := checkCount "sorted" 1 1 _) (wpAny_pure (wpAny_bind (gather_tup ht hz (wpAny_bind (wpAny_newList ?_)))))
  have z1 : ((s.heap.push (seqObj "list" #[] 0)).update s.heap.objs.size (Obj.mapSeq (· ++ us.toArray))).objs.size = s.heap.objs.size + 1 := by
    rw [Heap.size_update]
    exact Heap.size_push ..
  have at1 : (((s.heap.push (seqObj "list" #[] 0)).update s.heap.objs.size (Obj.mapSeq (· ++ us.toArray))).push (seqObj "list" us.toArray 0)).get? (s.heap.objs.size + 1) = some (seqObj "list" us.toArray 0) := by
    rw [← z1]
    exact Heap.get?_push_size _ rfl
  show wpAny _ _ _ _ _ { s with heap := ((s.heap.push (seqObj "list" #[] 0)).update s.heap.objs.size (Obj.mapSeq (· ++ us.toArray))).push (seqObj "list" us.toArray 0) }
  rw [z1]
  refine wpAny_bind (wpAny_holding (wpAny_call_entry slot_list_sort ⟨_, at1, rfl⟩ entry_list_sort ?_ (args_list_sort _)))
  exact list_sort_treeAny at1 hi hz fun out ms' a1 a2 a3 => ⟨_, rfl, wpAny_pure ⟨_, rfl, k out ms' a1 a2 a3⟩⟩
end
section
variable {Γ : Glob} {X : Cx} {W : WX} {cx : Cxt} {w : Wd} {H : Hp} {μ : Mu} {σ0 : St}
theorem Rps.ints' {Φ : Hp} : ∀ {vs : List V} {xs : List D} {ns : List Int}, Rps Γ Φ vs xs → intsOf xs = some ns → vs = ns.map V.int
  | _, _, _, .nil, h => by cases h; rfl
  | _, _, _, .cons (d := d) a r, h => by
    cases d <;> first | (cases h; done) | skip
    rename_i i
    unfold intsOf at h
    obtain ⟨ms, e1, e2⟩ := Option.map_eq_some_iff.mp h
    subst e2
    rw [Rps.ints' r e1]
    cases a
    rfl
theorem o_countT (hK : Γ.K = X.K) : OpM Γ X W σ0 cx .countT "tuple.count" := by
  intro pins s σ H x xs v us Q I rx rxs hh
  obtain ⟨w, μ, ds, ok, rv, p⟩ := hh
  rcases ds with _ | ⟨a, ds⟩
  · exact (show False from p).elim
  rcases ds with _ | ⟨b, _ | ⟨c, t⟩⟩
  · cases a <;> exact (show False from p).elim
  · obtain ⟨y, rfl, rb⟩ := rvs_one rv.2
    have ra := rv.1
    cases a <;> first | exact (show False from p).elim | skip
    cases b <;> first | exact (show False from p).elim | skip
    rename_i zs i
    have p' : postE Γ W σ0 w Q (match intsOf zs with
      | some ns => .ok (.int ((ns.count i : Nat) : Int)) μ
      | none => .stuck) := p
    split at p'
    · rename_i ns hn
      obtain ⟨q, vs, rfl, hT, hR, _⟩ := ra.tup_ ok
      have e := hR.ints' hn
      subst e
      have ey := rb.int_
      subst ey
      rw [hK] at hT
      obtain ⟨u, rfl, ru⟩ := rxs.one
      obtain ⟨t, rfl⟩ := ru
      obtain rfl : v = Value.ref q := rx
      obtain ⟨its, rr, ⟨⟨cls, dd, data, sl⟩, ho, hc, m, hd⟩, hlen⟩ := I.tuple hT
      simp only at hc hd
      subst hc hd
      have hi := ints_of_vals rr
      refine call_meets PySem.F.slot_tuple_count ⟨_, ho, rfl⟩ PySem.F.entry_tuple_count (PySem.F.args_tuple_count_2 _ _)
        (SeqAt.tuple_countAt q its.toArray m dd sl (.int i t) (eqk i)) ⟨ho, fun z hz => (eqk_gives hi z (by simpa using hz)).at _ _, ?_⟩
      have ec : its.toArray.toList.countP (eqk i) = ns.count i := eqk_count hi
      refine ⟨.int (ns.count i : Nat), H, I.tok _, ⟨s.toks, ?_⟩, postE.vp (W := W) p' ok (.int _)⟩
      show Value.int ((its.toArray.toList.countP (eqk i) : Nat) : Int) s.toks = _
      rw [ec]
    · exact p'.elim
  · cases a <;> cases b <;> exact (show False from p).elim
theorem o_count (hK : Γ.K = X.K) : OpM Γ X W σ0 cx .count "list.count" := by
  intro pins s σ H x xs v us Q I rx rxs hh
  obtain ⟨w, μ, ds, ok, rv, p⟩ := hh
  rcases ds with _ | ⟨a, ds⟩
  · exact (show False from p).elim
  rcases ds with _ | ⟨b, _ | ⟨c, t⟩⟩
  · cases a <;> exact (show False from p).elim
  · obtain ⟨y, rfl, rb⟩ := rvs_one rv.2
    have ra := rv.1
    cases b <;> first | exact (show False from p).elim | skip
    rename_i i
    have p' : postE Γ W σ0 w Q (match lstOf μ a with
      | some xs => (match intsOf xs with
        | some ns => .ok (.int ((ns.count i : Nat) : Int)) μ
        | none => .stuck)
      | none => .stuck) := p
    split at p'
    · rename_i zs hs
      split at p'
      · rename_i ns hn
        obtain ⟨q, vs, rfl, hT, hR⟩ := ra.lst_ ok hs
        have e := hR.ints' hn
        subst e
        have ey := rb.int_
        subst ey
        exact mt_lcount pins s σ H _ _ v us Q I rx rxs ⟨q, ns, i, rfl, rfl, SqL.of hT, postE.vp (W := W) p' ok (.int _)⟩
      · exact p'.elim
    · exact p'.elim
  · cases b <;> exact (show False from p).elim
theorem o_srt (hK : Γ.K = X.K) : OpC Γ X W σ0 cx .srt (.builtin "sorted") := by
  intro pins s σ H xs us Q I r hh
  obtain ⟨w, μ, ds, ok, rv, p⟩ := hh
  rcases ds with _ | ⟨a, _ | ⟨b, t⟩⟩
  · exact (show False from p).elim
  · obtain ⟨x, rfl, ra⟩ := rvs_one rv
    cases a <;> first | exact (show False from p).elim | skip
    rename_i zs
    have p' : postE Γ W σ0 w Q (match intsOf zs with
      | some ns => .ok (.lst ((sortI ns).map .int)) μ
      | none => .stuck) := p
    split at p'
    · rename_i ns hn
      obtain ⟨q, vs, rfl, hT, hR, hz⟩ := ra.tup_ ok
      have e := hR.ints' hn
      subst e
      rw [hK] at hT
      obtain ⟨its, rr, hl, hlen⟩ := I.tuple hT
      rw [Vals.ref1 r]
      have hi := rr.ints
      have l1 := rr.length
      have l2 := hR.len
      have hzl : its.length ≤ sizeLine := by
        rw [← l1, l2]
        exact hz
      refine sorted_tup hl hi hzl fun out ns' h1 h2 h3 => ?_
      have e : ns' = sortI ns := le_one (h2.trans (sortI_perm ns).symm) h3 (sortI_le ns)
      subst e
      obtain ⟨ep, he'⟩ := PyProof.Rows.sortedAll_at s.heap its out
      have hl2 : ((sortI ns).map V.int).length ≤ sizeLine := by
        rw [List.length_map, h2.length_eq, ← List.length_map (f := V.int), rr.length]
        exact hzl
      have fr := I.hok.fresh (Nat.le_succ s.heap.objs.size)
      exact ⟨.ref _, upd H (s.heap.objs.size + 1) (.lst ((sortI ns).map V.int)), I.laid (t' := s.toks) (fun _ _ => PyProof.Rows.sortedAll_old) (Nat.le_succ _) ⟨hl2, out.toList, ep, vals_of_ints h1, he'⟩, rfl,
        nw_newLst (nw := false) p' ok (rps_ints _) (by rw [List.length_map] at hl2 ⊢; exact hl2) _ fr⟩
    · exact p'.elim
  · cases a <;> exact (show False from p).elim
end
end KP
end

section
set_option maxRecDepth 100000
set_option maxHeartbeats 4000000
/-! KP8: how arguments are bound; a def's promise; calls. -/
namespace KP
open PySem PySem.Spec PyProof.Rows L2
theorem pure_bind' {α β : Type} (a : α) (f : α → Sem β) : (pure a >>= f) = f a := rfl
theorem loop_kw (B : Str × Value → (List (Str × Value) × List (Str × Value)) → Sem (ForInStep (List (Str × Value) × List (Str × Value)))) :
    ∀ (kw sl ex : List (Str × Value)), (∀ (pre : List (Str × Value)) (p : Str × Value) (post : List (Str × Value)), kw = pre ++ p :: post → B p (sl ++ pre, ex) = pure (.yield (sl ++ pre ++ [p], ex))) →
    forIn kw (sl, ex) B = pure (sl ++ kw, ex)
  | [], sl, ex, _ => by simp
  | p :: r, sl, ex, h => by
    rw [List.forIn_cons]
    have h0 := h [] p r rfl
    rw [List.append_nil] at h0
    rw [h0]
    show forIn r (sl ++ [p], ex) B = _
    rw [loop_kw B r (sl ++ [p]) ex (fun pre q post e => by
      have := h (p :: pre) q post (by rw [e]; rfl)
      simpa using this)]
    simp
theorem bind_kw (name qual : Str) (args : List Arg) (kd : List (Option Expr)) (body : List Stmt) (scope : Scope) (kV doc pm cdv ct : Value) (an : Option Addr) (us : List Value) (kw : List (Str × Value)) (ps : List Str) (vals : List Value)
  (hp : args.map (·.arg) = ps) (hlen : us.length ≤ ps.length) (hn : ∀ p ∈ kw, p.1 ∈ ps) (hd : ∀ (pre : List (Str × Value)) (p : Str × Value) (post : List (Str × Value)), kw = pre ++ p :: post → (ps.zip us ++ pre).lookup p.1 = none)
  (hall : ∀ x ∈ ps, ((ps.zip us ++ kw).lookup x).isSome = true) (hv : ps.filterMap (fun n => ((ps.zip us ++ kw).lookup n).map (n, ·)) = ps.zip vals) :
    bindArgs (PySem.W.fnOf name qual ⟨[], args, none, [], kd, none, []⟩ body scope .none kV doc pm an cdv ct) ⟨us, kw⟩ = pure (ps.zip vals) := by
  unfold bindArgs
  rw [show ∀ (d : Value), (PySem.W.fnOf name qual ⟨[], args, none, [], kd, none, []⟩ body scope d kV doc pm an cdv ct).params = ⟨[], args, none, [], kd, none, []⟩ from fun _ => rfl]
  simp only [List.map_nil, List.nil_append, List.append_nil, hp]
  rw [loop_kw _ kw (ps.zip us) [] (fun pre p post e => by
    obtain ⟨k, v⟩ := p
    have h1 : (ps.contains k || ([] : List Str).contains k) = true := by
      have : k ∈ ps := hn (k, v) (by rw [e]; simp)
      simp [this]
    have h2 := hd pre (k, v) post e
    dsimp only at h2 ⊢
    rw [if_pos h1, h2]
    rfl)]
  rw [pure_bind']
  have e1 : seqItems? (PySem.W.fnOf name qual ⟨[], args, none, [], kd, none, []⟩ body scope .none kV doc pm an cdv ct).defaults = pure none := rfl
  rw [e1, pure_bind']
  have hm : (List.filter (fun n => (List.lookup n (ps.zip us ++ kw)).isNone) ps) = [] := by
    rw [List.filter_eq_nil_iff]
    intro x hx
    have := hall x hx
    cases h : List.lookup x (ps.zip us ++ kw) with
    | none => rw [h] at this; cases this
    | some y => simp
  dsimp only
  have hno : ¬ ((decide (us.length > ps.length) && (none : Option Arg).isNone) = true) := by simp; omega
  rw [if_neg hno]
  simp only [Option.getD_none, List.drop_nil, List.length_nil, Nat.sub_zero, List.take_length, hm, List.isEmpty_nil, Bool.not_true, Bool.false_eq_true, if_false, List.drop_length, List.zip_nil_left, List.zip_nil_right, List.forIn_nil, pure_bind', hv]
/-- places by names: first those that stand, then those that are named -/
def pmOf (n : Nat) (ks ps : List Str) : List Nat := ps.map fun p => (ps.take n ++ ks).idxOf p
def permA {α : Type} (pm : List Nat) (xs : List α) : Option (List α) := pm.mapM fun i => xs[i]?
theorem perm_eq (pm : List Nat) (ds : List D) : perm pm ds = permA pm ds := rfl
def pmOk (n : Nat) (ks ps : List Str) (pm : List Nat) : Bool := decide ((ps.take n ++ ks).Nodup) && decide (n ≤ ps.length) && decide (ks.length + n = ps.length) && (ks.all fun k => decide (k ∈ ps)) && (ps.all fun p => decide (p ∈ ps.take n ++ ks)) && decide (pm = pmOf n ks ps)
theorem lookup_idx {α : Type} (x : Str) : ∀ (N : List Str) (V : List α), N.length = V.length → (N.zip V).lookup x = if x ∈ N then V[N.idxOf x]? else none
  | [], [], _ => by simp
  | [], _ :: _, h => by simp at h
  | _ :: _, [], h => by simp at h
  | n :: N, v :: V, h => by
    have h' : N.length = V.length := by simpa using h
    rw [List.zip_cons_cons, List.lookup_cons, lookup_idx x N V h']
    by_cases e : x = n
    · subst e; simp
    · have e1 : (x == n) = false := by simpa using e
      have e2 : n ≠ x := fun z => e z.symm
      rw [e1]
      simp [e, List.idxOf_cons, beq_eq_false_iff_ne.mpr e2]
theorem zip_app {α : Type} {ps : List Str} {n : Nat} {us ws : List α} {ks : List Str} (hn : n ≤ ps.length) (hu : us.length = n) : ps.zip us ++ ks.zip ws = (ps.take n ++ ks).zip (us ++ ws) := by
  rw [List.zip_append (by rw [List.length_take, hu]; omega)]
  congr 1
  subst hu
  rw [List.zip_eq_zip_take_min (l₁ := ps) (l₂ := us), show min ps.length us.length = us.length by omega, List.take_length]
theorem mapM_some_len {α β : Type} {f : α → Option β} : ∀ {l : List α} {r : List β}, l.mapM f = some r → r.length = l.length
  | [], r, h => by
    rw [List.mapM_nil] at h
    cases h; rfl
  | a :: l, r, h => by
    rw [List.mapM_cons] at h
    obtain ⟨b, h1, h2⟩ := Option.bind_eq_some_iff.mp h
    obtain ⟨c, h3, h4⟩ := Option.bind_eq_some_iff.mp h2
    cases h4
    rw [List.length_cons, List.length_cons, mapM_some_len h3]
theorem filter_zip {α : Type} (L : Str → Option α) : ∀ (ps : List Str) (vals : List α), ps.mapM L = some vals → ps.filterMap (fun n => (L n).map (n, ·)) = ps.zip vals
  | [], vals, h => by simp
  | p :: ps, vals, h => by
    rw [List.mapM_cons] at h
    obtain ⟨b, h1, h2⟩ := Option.bind_eq_some_iff.mp h
    obtain ⟨c, h3, h4⟩ := Option.bind_eq_some_iff.mp h2
    cases h4
    rw [List.filterMap_cons, h1, List.zip_cons_cons, ← filter_zip L ps c h3]
    rfl
/-- a def of plain parameters without defaults -/
def FdN (fd : FuncData) (ps : List Str) : Prop := ∃ (name qual : Str) (args : List Arg) (kd : List (Option Expr)) (body : List Stmt) (scope : Scope) (kV doc pm cdv ct : Value) (an : Option Addr), fd = PySem.W.fnOf name qual ⟨[], args, none, [], kd, none, []⟩ body scope .none kV doc pm an cdv ct ∧ args.map (·.arg) = ps
theorem bind_pm {fd : FuncData} {ps ks : List Str} {pm : List Nat} {us ws vals : List Value} (hf : FdN fd ps) (hp : pmOk us.length ks ps pm = true) (hw : ws.length = ks.length) (hv : permA pm (us ++ ws) = some vals) (s : Shared) : BindsTo s fd ⟨us, ks.zip ws⟩ (ps.zip vals) := by
  obtain ⟨name, qual, args, kd, body, scope, kV, doc, pmv, cdv, ct, an, rfl, ha⟩ := hf
  unfold pmOk at hp
  simp only [Bool.and_eq_true, decide_eq_true_eq, List.all_eq_true] at hp
  obtain ⟨⟨⟨⟨⟨hnd, hn⟩, hl⟩, hks⟩, hps⟩, hpm⟩ := hp
  have hlen : (ps.take us.length ++ ks).length = (us ++ ws).length := by
    rw [List.length_append, List.length_append, List.length_take, hw]; omega
  have hz : ps.zip us ++ ks.zip ws = (ps.take us.length ++ ks).zip (us ++ ws) := zip_app hn rfl
  have hlk : ∀ x ∈ ps, (ps.zip us ++ ks.zip ws).lookup x = (us ++ ws)[(ps.take us.length ++ ks).idxOf x]? := fun x hx => by
    rw [hz, lookup_idx x _ _ hlen, if_pos (hps x hx)]
  refine .of_eq (bind_kw name qual args kd body scope kV doc pmv cdv ct an us (ks.zip ws) ps vals ha hn ?_ ?_ ?_ ?_)
  · intro p hpz
    exact hks p.1 (List.of_mem_zip hpz).1
  · intro pre p post e
    have e2 : (ps.take us.length ++ ks).zip (us ++ ws) = (ps.zip us ++ pre) ++ p :: post := by rw [← hz, e, List.append_assoc]
    have e3 : (ps.take us.length ++ ks) = ((ps.zip us ++ pre) ++ p :: post).map (·.1) := by rw [← e2, List.map_fst_zip (by omega)]
    rw [e3, List.map_append, List.map_cons, List.nodup_append] at hnd
    cases hx : (ps.zip us ++ pre).lookup p.1 with
    | none => rfl
    | some v =>
      have hm := PySem.mem_of_lookup hx
      exact absurd rfl (hnd.2.2 p.1 (List.mem_map.mpr ⟨_, hm, rfl⟩) p.1 List.mem_cons_self)
  · intro x hx
    rw [hlk x hx, List.getElem?_eq_getElem (by rw [← hlen]; exact List.idxOf_lt_length_iff.mpr (hps x hx))]
    rfl
  · refine filter_zip (fun n => (ps.zip us ++ ks.zip ws).lookup n) ps vals ?_
    rw [← hv, hpm]
    unfold permA pmOf
    rw [List.mapM_map]
    clear hpm hv
    have : ∀ q : List Str, (∀ x ∈ q, x ∈ ps) → q.mapM (fun n => (ps.zip us ++ ks.zip ws).lookup n) = q.mapM ((fun i => (us ++ ws)[i]?) ∘ fun p => (ps.take us.length ++ ks).idxOf p) := by
      intro q
      induction q with
      | nil => intro _; rfl
      | cons a q ih =>
        intro h
        rw [List.mapM_cons, List.mapM_cons, ih fun x hx => h x (List.mem_cons_of_mem _ hx), hlk a (h a List.mem_cons_self)]
        rfl
    exact this ps fun _ h => h
end KP
end

section
set_option maxRecDepth 100000
set_option maxHeartbeats 4000000
/-! KP9: a def's promise where no repr is under way; calls. -/
namespace KP
open PySem PySem.Spec PyProof.Rows L2
/-- as FnOk, but repr is not under way -/
structure FnG (P : Program) (w : World) (K : PySem.W.Frag) (mg : Str → Option Value) (base : Heap) (k : Nat) (f : Addr) (fd : FuncData) (ps : List Str) (sp : Sp) : Prop where
  len : ∀ vs H Q E, sp vs H Q E → vs.length = ps.length
  run : ∀ (A : Around) (outer : List Env) (s : Shared) (H : Hp) (args : Args) (us : List Value) (vs : List V) (Q : VK) (E : XK), Room k A → A.guards = some [] → Env0 P w K mg base A outer s H → BindsTo s fd args (ps.zip us) → Vals vs us →
    sp vs H Q E → codeAny (model P w) A (.call (.ref f) args) (CR (L2.CX P w) outer P w H s Q E) s
section
variable {P : Program} {w : World} {K : PySem.W.Frag} {mg : Str → Option Value} {base : Heap} {k : Nat} {f : Addr} {fd : FuncData} {ps : List Str} {sp : Sp}
theorem FnG.mono {j : Nat} (F : FnG P w K mg base j f fd ps sp) (h : j ≤ k) : FnG P w K mg base k f fd ps sp :=
  ⟨F.len, fun A outer s H args us vs Q E hr => F.run A outer s H args us vs Q E (hr.mono h)⟩
theorem guards_deeper (A : Around) (env : Env) : (A.deeper env).guards = A.guards := rfl
theorem fn_G {name qual : Str} {params : Arguments} {body : List Stmt} {scope : Scope} {dV kV doc pm cdv ct oc : Value} {an od : Option Addr} {osl : Array (Option Value)} {N : List Str}
    (lk : K.lookup f = some ⟨oc, od, .func (PySem.W.fnOf name qual params body scope dV kV doc pm an cdv ct), osl⟩) (hcd : PySem.W.codeIn K cdv qual = true) (S : FnScope N ps scope) (len : ∀ vs H Q E, sp vs H Q E → vs.length = ps.length)
    (hbody : ∀ (A : Around) (outer : List Env) (s : Shared) (H : Hp) (vs : List V) (Q : VK) (E : XK), A.guards = some [] → Room k (A.deeper (envOfC qual scope s.heap.objs.size f cdv)) → sp vs H Q E →
      ∃ t, PSs (cxOf (L2.CX P w) P w K mg base N qual scope f cdv A outer s H E) body t ∧ t { nx := fun _ H' => Q .non H', rt := Q } (start N vs) H) :
    FnG P w K mg base (k + 1) f (PySem.W.fnOf name qual params body scope dV kV doc pm an cdv ct) ps sp := by
  refine ⟨len, fun A outer s H args us vs Q E hr hg e0 hb r hsp => ?_⟩
  have hl : vs.length = ps.length := len vs H Q E hsp
  have kp : ∀ b o, base.get? b = some o → s.heap.get? b = some o := fun b o e => (e0.bs b o e).1
  have hK : K.In s.heap := e0.mod.kin.keeps kp
  refine codeAny_call_function hr.depth (hK _ _ lk) rfl S.co S.gen rfl (PySem.W.codeRec_of hK hcd) (hb _ _ _ _ ?_)
  refine wpAny_newFunctionEnv_cells S.kind (fun y hy => ?_) fun env he s1 x => ?_
  · obtain ⟨n, v⟩ := y
    exact (S.par n (List.of_mem_zip hy).1).elim .inl fun q => .inr ⟨q, PySem.W.cellsFrom_some _ _ _ (.inl q)⟩
  · subst he
    obtain ⟨t, ht, hq⟩ := hbody A outer s H vs Q E hg (hr.deeper _) hsp
    have J0 := inv_start (CX := L2.CX P w) (E := E) S hr.hd e0 hl r x
    refine ⟨(e0.mod.nolimit.keeps kp).keeps x.toInCall.keep, codeAny_func (wpAny_mono (ht.run [] s1 (start N vs) H _ J0 hq) (fun fl s' hs => ?_) fun e s' hs => hs)⟩
    cases fl with
    | ret u => exact let ⟨v, σ', H', J, rv, q⟩ := hs; ⟨v, H', J.os, J.bare, J.base, J.hok, rv, q⟩
    | next => exact let ⟨σ', H', J, q⟩ := hs; ⟨V.non, H', J.os, J.bare, J.base, J.hok, rfl, q⟩
    | brk => exact let ⟨_, _, _, q⟩ := hs; q.elim
    | cont => exact let ⟨_, _, _, q⟩ := hs; q.elim
end
/-- a def's promise: what the small syntax computes -/
def spI (Γ : Glob) (g : List D → Mu → R D) : Sp := fun vs H Q E => RO Γ (fun c d _ H => E c d H) [] vs g H Q
/-- a def that may be called: its parameters, its promise -/
def FOk (Γ : Glob) (P : Program) (w : World) (mg : Str → Option Value) (base : Heap) (k : Nat) (g : List D → Mu → R D) (f : Nat) (ps : List Str) : Prop :=
  ∃ fd, FdN fd ps ∧ PySem.W.keepIn Γ.K (.ref (Γ.fad f)) = true ∧ FnG P w Γ.K mg base k (Γ.fad f) fd ps (spI Γ g) ∧ ∃ oc od osl, Γ.K.lookup (Γ.fad f) = some ⟨oc, od, .func fd, osl⟩
section
variable {Γ : Glob} {X : Cx} {W : WX} {cx : Cxt} {C : Cv} {k : Nat}
theorem evs_append {xs ys : List E} {ρ : Rho} {μ : Mu} : evs cx (xs ++ ys) ρ μ = (evs cx xs ρ μ).bind fun a μ => (evs cx ys ρ μ).bind fun b μ => .ok (a ++ b) μ := by
  induction xs generalizing μ with
  | nil => simp [evs_nil, R.bind_ok]
  | cons x xs ih =>
    by_cases h : x.isSt = true
    · cases x <;> first | cases h | skip
      rename_i e
      rw [List.cons_append, evs_st, evs_st, R.bind_assoc]
      congr 1
      funext d μ
      unfold starD
      cases seqOf μ d with
      | none => rfl
      | some zs =>
        dsimp only
        rw [ih, R.bind_assoc, R.bind_assoc]
        congr 1
        funext a μ
        rw [R.bind_assoc]
        simp [List.append_assoc]
    · have h' : x.isSt = false := by simpa using h
      rw [List.cons_append, evs_cons h', evs_cons h', R.bind_assoc]
      congr 1
      funext d μ
      rw [ih, R.bind_assoc, R.bind_assoc]
      congr 1
      funext a μ
      rw [R.bind_assoc]
      rfl
theorem evs_len : ∀ {xs : List E} {ρ : Rho} {μ μ' : Mu} {ds : List D}, (xs.all fun x => !x.isSt) = true → evs cx xs ρ μ = .ok ds μ' → ds.length = xs.length
  | [], ρ, μ, μ', ds, _, h => by
    rw [evs_nil] at h
    cases h; rfl
  | x :: xs, ρ, μ, μ', ds, hs, h => by
    rw [List.all_cons, Bool.and_eq_true] at hs
    rw [evs_cons (by simpa using hs.1)] at h
    cases h1 : ev cx x ρ μ with
    | ok d μ1 =>
      rw [h1, R.ok_bind] at h
      cases h2 : evs cx xs ρ μ1 with
      | ok es μ2 =>
        rw [h2, R.ok_bind] at h
        cases h
        rw [List.length_cons, List.length_cons, evs_len hs.2 h2]
      | exc c ns vs μ2 => rw [h2] at h; cases h
      | stuck => rw [h2] at h; cases h
    | exc c ns vs μ2 => rw [h1] at h; cases h
    | stuck => rw [h1] at h; cases h
theorem rdA_split {xs ys : List E} {σ : St} {H : Hp} {R0 : List V → Hp → Prop} (hs : (xs.all fun x => !x.isSt) = true) (h : rdA Γ W (evs cx (xs ++ ys)) σ H R0) :
    rdA Γ W (evs cx xs) σ H fun vs H1 => vs.length = xs.length ∧ rdA Γ W (evs cx ys) σ H1 fun zs H2 => R0 (vs ++ zs) H2 := by
  obtain ⟨w, ρ, μ, ds, g, rv, p⟩ := h
  refine ⟨w, ρ, μ, [], g, trivial, ?_⟩
  simp only [evs_append] at p
  dsimp only
  cases e : evs cx xs ρ μ with
  | ok a μ1 =>
    rw [e, R.ok_bind] at p
    intro w1 vs H1 le ok ra
    refine ⟨ra.len.trans (evs_len hs e), w1, ρ, μ1, [], ⟨g.st.mono le, ok⟩, trivial, ?_⟩
    have p1 := postA.mono le p
    dsimp only
    revert p1
    generalize evs cx ys ρ μ1 = r
    intro p1
    cases r with
    | ok b μ2 => exact fun w2 zs H2 le2 ok2 rz => p1 w2 _ H2 le2 ok2 ((ra.mono le2).app rz)
    | exc c ns vs μ2 => exact p1
    | stuck => exact p1
  | exc c ns vs μ1 => rw [e] at p; exact p
  | stuck => rw [e] at p; exact p
theorem sk_nil : PK X [] (rdA Γ W (evs cx [])) := ⟨fun ps pins s σ H Q I h => pk_nil.run ps pins s σ H Q I (by
  obtain ⟨w, ρ, μ, ds, g, rv, p⟩ := h
  exact p w [] H w.refl g.ok trivial)⟩
theorem sk_cons {e : Expr} {x : E} {xs : List E} {kws : List Keyword} {nm : Option Str} {kpos : Pos} (hx : x.isSt = false) (ha : PE X e (rdE Γ W (ev cx x))) (hr : PK X kws (rdA Γ W (evs cx xs))) : PK X (⟨nm, e, kpos⟩ :: kws) (rdA Γ W (evs cx (x :: xs))) := by
  refine ⟨fun ps pins s σ H Q I h => (pk_cons ha hr).run ps pins s σ H Q I ?_⟩
  have h1 : RDA Γ W [] (fun ds ρ μ => (ev cx x ρ μ).bind fun d μ => (evs cx xs ρ μ).bind fun es μ => .ok (ds ++ [d] ++ es) μ) σ H Q := by
    obtain ⟨w, ρ, μ, ds, g, rv, p⟩ := h
    refine ⟨w, ρ, μ, [], g, trivial, ?_⟩
    simp only [evs_cons hx] at p
    exact p
  refine rdE.mono (RDA.eval (f := fun ds ρ μ => (evs cx xs ρ μ).bind fun es μ => .ok (ds ++ es) μ) h1) fun v H1 h2 => ?_
  refine rdA.mono (RDA.evals (f := fun ds (_ : Rho) μ => .ok ds μ) h2) fun us H2 h3 => ?_
  obtain ⟨w, ρ, μ, ds, g, rv, p⟩ := h3
  exact p w _ H2 w.refl g.ok rv
/-! what stands as an argument -/
def notSt : Expr → Bool
  | .Starred _ _ => false
  | _ => true
theorem se_plain {e : Expr} {es : List Expr} {env : Env} (h : notSt e = true) : starEach (e :: es) env = (false, eval e env) :: starEach es env := by
  cases e <;> first | rfl | cases h
theorem bt_plain {pos : Pos} {env : Env} : ∀ {es : List Expr}, es.all notSt = true → (backTo pos (starEach es env)).any (·.1) = false
  | [], _ => rfl
  | e :: es, h => by
    rw [List.all_cons, Bool.and_eq_true] at h
    rw [se_plain h.1]
    show (false || (backTo pos (starEach es env)).any (·.1)) = false
    rw [bt_plain h.2]; rfl
def kwNames (ks : List Str) (kws : List Keyword) : Bool := decide (kws.map (·.arg) = ks.map some)
theorem kw_facts {pos : Pos} {env : Env} : ∀ {kws : List Keyword} {ks : List Str}, kws.map (·.arg) = ks.map some →
    (backToKw pos (keywordEach kws env)).all (·.1.isSome) = true ∧ (backToKw pos (keywordEach kws env)).filterMap (·.1) = ks ∧ (backToKw pos (keywordEach kws env)).any (·.1.isNone) = false
  | [], ks, h => by
    cases ks with
    | nil => exact ⟨rfl, rfl, rfl⟩
    | cons => simp at h
  | ⟨a, v, p⟩ :: kws, ks, h => by
    cases ks with
    | nil => simp at h
    | cons k ks =>
      rw [List.map_cons, List.map_cons] at h
      injection h with h1 h2
      have h1' : a = some k := h1
      subst h1'
      obtain ⟨q1, q2, q3⟩ := kw_facts (pos := pos) (env := env) h2
      refine ⟨?_, ?_, ?_⟩
      · show (true && (backToKw pos (keywordEach kws env)).all (·.1.isSome)) = true
        rw [q1]; rfl
      · show k :: (backToKw pos (keywordEach kws env)).filterMap (·.1) = k :: ks
        rw [q2]
      · show (false || (backToKw pos (keywordEach kws env)).any (·.1.isNone)) = false
        rw [q3]; rfl
/-- all arguments are evaluated, then the call -/
theorem args_all {es : List Expr} {xs ys : List E} {kws : List Keyword} {ks : List Str} {pos : Pos} {fv : Value} {first : List Value} (hk : PySem.W.keepIn X.K fv = true) (hes : es.all notSt = true) (hks : kws.map (·.arg) = ks.map some) (hxs : (xs.all fun x => !x.isSt) = true) (hnil : es = [] → xs = [])
    (ha : PA X es (rdA Γ W (evs cx xs))) (hkw : PK X kws (rdA Γ W (evs cx ys))) {pins : List (Addr × Obj)} {s : Shared} {σ : St} {H : Hp} {R0 : List V → Hp → Prop} {Q : Value → Shared → Prop} (I : Inv X pins σ H s) (h : rdA Γ W (evs cx (xs ++ ys)) σ H R0)
    (go : ∀ (us ws : List Value) (vs zs : List V) (s' : Shared) (H' : Hp), Inv X pins σ H' s' → Vals vs us → Vals zs ws → vs.length = xs.length → R0 (vs ++ zs) H' → wpAny (model X.prog X.w) X.A (call fv (first ++ us) (ks.zip ws)) Q X.xe s') :
    wpAny (model X.prog X.w) X.A (callWith pos fv first (backTo pos (starEach es X.env)) (backToKw pos (keywordEach kws X.env))) Q X.xe s := by
  obtain ⟨q1, q2, q3⟩ := kw_facts (pos := pos) (env := X.env) hks
  have h' := rdA_split hxs h
  cases es with
  | nil =>
    have e := hnil rfl
    subst e
    refine PySem.W.callWith_KW0 (h₀ := X.base) I.ok.mod.kin hk q1 (thn (hkw.run pos pins s σ H _ I h) fun ws s2 ⟨zs, H2, I2, rz, qq⟩ => ⟨I2.kIn, ?_⟩) ?_
    · rw [q2]
      exact go [] ws [] zs s2 H2 I2 .nil rz rfl qq
    · rw [q3]; rfl
  | cons e es =>
    rw [List.all_cons, Bool.and_eq_true] at hes
    refine PySem.W.callWith_KW (h₀ := X.base) I.ok.mod.kin hk q1 (thn (ha.run pos pins s σ H _ I h') fun us s1 ⟨vs, H1, I1, r, l1, q⟩ => ?_) ?_ (se_plain hes.1)
    · refine thn (hkw.run pos pins s1 σ H1 _ I1 q) fun ws s2 ⟨zs, H2, I2, rz, qq⟩ => ⟨I2.kIn, ?_⟩
      rw [q2]
      exact go us ws vs zs s2 H2 I2 r rz l1 qq
    · rw [se_plain hes.1, q3]
      show ((false || (backTo pos (starEach es X.env)).any (·.1)) || false) = false
      rw [bt_plain hes.2]; rfl
/-! the same order of arguments, of whatever they are -/
theorem vals_perm {vs : List V} {us : List Value} (r : Vals vs us) : ∀ (pm : List Nat) (ws : List V), permA pm vs = some ws → ∃ zs, permA pm us = some zs ∧ Vals ws zs
  | [], ws, h => by
    unfold permA at h
    rw [List.mapM_nil] at h
    cases h
    exact ⟨[], rfl, .nil⟩
  | i :: pm, ws, h => by
    unfold permA at h ⊢
    rw [List.mapM_cons] at h
    obtain ⟨b, h1, h2⟩ := Option.bind_eq_some_iff.mp h
    obtain ⟨c, h3, h4⟩ := Option.bind_eq_some_iff.mp h2
    cases h4
    obtain ⟨u, q1, q2⟩ := r.get h1
    obtain ⟨zs, q3, q4⟩ := vals_perm r pm c h3
    refine ⟨u :: zs, ?_, .cons q2 q4⟩
    rw [List.mapM_cons, q1]
    show (permA pm us).bind _ = _
    rw [q3]; rfl
theorem Rvs.perm {w : Wd} {vs : List V} {ds : List D} (r : Rvs Γ w vs ds) : ∀ (pm : List Nat) (es : List D), permA pm ds = some es → ∃ zs, permA pm vs = some zs ∧ Rvs Γ w zs es
  | [], ws, h => by
    unfold permA at h
    rw [List.mapM_nil] at h
    cases h
    exact ⟨[], rfl, trivial⟩
  | i :: pm, ws, h => by
    unfold permA at h ⊢
    rw [List.mapM_cons] at h
    obtain ⟨b, h1, h2⟩ := Option.bind_eq_some_iff.mp h
    obtain ⟨c, h3, h4⟩ := Option.bind_eq_some_iff.mp h2
    cases h4
    obtain ⟨u, q1, q2⟩ := r.get h1
    obtain ⟨zs, q3, q4⟩ := Rvs.perm r pm c h3
    refine ⟨u :: zs, ?_, q2, q4⟩
    rw [List.mapM_cons, q1]
    show (permA pm vs).bind _ = _
    rw [q3]; rfl
/-- the callee runs -/
theorem run_G {g : List D → Mu → R D} {f : Nat} {ps ks : List Str} {pm : List Nat} {n : Nat} (S : Sx Γ C k X W) {j : Nat} (hj : j ≤ k) (F : FOk Γ X.prog X.w X.mg X.base j g f ps) (hp : pmOk n ks ps pm = true) {pins : List (Addr × Obj)} {σ : St} {H : Hp} {s : Shared} {Q : VK} {us ws : List Value} {vs zs : List V}
    (I : Inv X pins σ H s) (r : Vals vs us) (rz : Vals zs ws) (hn : vs.length = n) (hw : zs.length = ks.length) (h : RO Γ W σ (vs ++ zs) (fun ds μ => match perm pm ds with
      | some ws => g ws μ
      | none => .stuck) H Q) : wpAny (model X.prog X.w) X.A (call (.ref (Γ.fad f)) us (ks.zip ws)) (EP X pins σ Q) X.xe s := by
  obtain ⟨fd, hfd, hkp, F, _⟩ := F
  obtain ⟨w, μ, ds, ok, rv, p⟩ := h
  dsimp only at p
  rw [perm_eq] at p
  cases e : permA pm ds with
  | none => rw [e] at p; exact p.elim
  | some es =>
    rw [e] at p
    obtain ⟨vs', e1, rv'⟩ := rv.perm pm es e
    obtain ⟨us', e2, r'⟩ := vals_perm (r.append rz) pm vs' e1
    have hb := bind_pm (ps := ps) (ks := ks) (pm := pm) (us := us) (ws := ws) hfd (by rw [← r.length, hn]; exact hp) (by rw [← rz.length, hw]) e2 s
    have hsp : spI Γ g vs' H Q (WE W σ) := ⟨w, μ, es, ok, rv', by
      have p' : postE Γ W σ w Q (g es μ) := p
      clear p
      have p := p'
      clear p'
      revert p
      generalize g es μ = rr
      intro p
      cases rr with
      | ok d μ1 => exact p
      | exc c ns xs μ1 => exact p
      | stuck => exact p⟩
    refine wpAny_call (codeAny_mono (F.run X.A X.stack s H _ us' vs' Q (WE W σ) (S.room.mono hj) S.gd (by rw [S.hK]; exact I.env0) hb r' hsp) fun rr s' hq => ?_)
    cases rr with
    | error e => exact S.pa σ pins H s e s' I hq
    | ok fl =>
      cases fl with
      | ret u => exact I.after hq
      | next => exact False.elim hq
      | brk => exact False.elim hq
      | cont => exact False.elim hq
theorem s_call {f : Nat} {ps ks : List Str} {pm : List Nat} {es : List Expr} {kws : List Keyword} {xs ys : List E} {x : Str} {p pos : Pos} {j : Nat} (S : Sx Γ C k X W) (hj : j ≤ k) (F : FOk Γ X.prog X.w X.mg X.base j (cx.cf f) f ps) (hp : pmOk xs.length ks ps pm = true)
    (hx : C.glo x = some (.fn f)) (hes : es.all notSt = true) (hks : kws.map (·.arg) = ks.map some) (hys : ys.length = ks.length) (hxs : (xs.all fun x => !x.isSt) = true) (hyt : (ys.all fun x => !x.isSt) = true) (hnil : es = [] → xs = [])
    (ha : PA X es (rdA Γ W (evs cx xs))) (hkw : PK X kws (rdA Γ W (evs cx ys))) : PE X (.Call (.Name x p) es kws pos) (rdE Γ W (ev cx (.call f (xs ++ ys) pm))) := by
  obtain ⟨h1, ⟨h2, h3⟩, h4, _⟩ := S.glo hx
  refine ⟨fun pins s σ H Q I h => ?_⟩
  refine wpAny_Call_Name_kw (ld_glob I h1 h2 ?_ h4)
  have hr : rdA Γ W (evs cx (xs ++ ys)) σ H fun vs H1 => vs.length = xs.length + ys.length ∧ RO Γ W σ vs (fun ds μ => callP cx f pm ds μ) H1 Q := by
    obtain ⟨w, ρ, μ, ds, g, rv, p⟩ := h
    refine ⟨w, ρ, μ, [], g, trivial, ?_⟩
    simp only [ev_call] at p
    dsimp only
    cases e : evs cx (xs ++ ys) ρ μ with
    | ok a μ1 =>
      rw [e, R.ok_bind] at p
      exact fun w1 vs H1 le ok ra => ⟨by rw [ra.len, evs_len (by rw [List.all_append, hxs, hyt]; rfl) e, List.length_append], w1, μ1, a, ok, ra, postE.mono le p⟩
    | exc c ns vs μ1 => rw [e] at p; exact p
    | stuck => rw [e] at p; exact p
  refine args_all h3 hes hks hxs hnil ha hkw I hr fun us ws vs zs s' H' I' r rz l1 ⟨l2, ro⟩ => ?_
  exact run_G (g := cx.cf f) S hj F hp I' r rz l1 (by rw [List.length_append] at l2; omega) ro
end
end KP
end

section
set_option maxRecDepth 100000
set_option maxHeartbeats 4000000
/-! KP10: what is walked; statements. -/
namespace KP
open PySem PySem.Spec PyProof.Rows L2
section
variable {Γ : Glob} {X : Cx} {W : WX} {cx : Cxt} {C : Cv} {k : Nat}
/-! ### walks -/
/-- the iterator yields these, as long as what it walks stands still -/
def Walks (Γ : Glob) (w1 : Wd) (J : It) (stl : Mu → Bool) (xs : List D) : Prop := ∀ (i : Nat) (w : Wd) (μ : Mu) (H : Hp), w1.lf w → OkW Γ w μ H → stl μ = true →
  (i = xs.length → J.stop i H) ∧ ∀ d, xs[i]? = some d → J.go i H ∧ ∀ x H', J.yld i H x H' → ∃ w', w.le w' ∧ OkW Γ w' μ H' ∧ Rv Γ w' x d
def SW (Γ : Glob) (k : ItK) (vs : List V) (H1 : Hp) (R0 : It → Hp → Prop) : Prop := ∃ w μ ds xs, OkW Γ w μ H1 ∧ Rvs Γ w vs ds ∧ itD k ds μ = some xs ∧ ∀ J, Walks Γ w J (still ds μ) xs → R0 J H1
def tWalk (Γ : Glob) (W : WX) (cx : Cxt) (k : ItK) (es : List E) : TI := fun σ H R0 => rdA Γ W (evs cx es) σ H fun vs H1 => SW Γ k vs H1 R0
theorem rdA_one {x : E} {σ : St} {H : Hp} {Q : List V → Hp → Prop} (hx : x.isSt = false) (h : rdA Γ W (evs cx [x]) σ H Q) : rdE Γ W (ev cx x) σ H fun v H1 => Q [v] H1 := by
  have h1 : RDA Γ W [] (fun ds ρ μ => (ev cx x ρ μ).bind fun d μ => .ok (ds ++ [d]) μ) σ H Q := by
    obtain ⟨w, ρ, μ, ds, g, rv, p⟩ := h
    refine ⟨w, ρ, μ, [], g, trivial, ?_⟩
    simp only [evs_cons hx, evs_nil, R.bind_assoc, R.ok_bind] at p
    exact p
  refine rdE.mono (RDA.eval (f := fun ds (_ : Rho) μ => .ok ds μ) h1) fun v H1 h3 => ?_
  obtain ⟨w, ρ, μ, ds, g, rv, p⟩ := h3
  exact p w _ H1 w.refl g.ok rv
theorem pi_imp {tg iter : Expr} {wi wi' : TI} (h : PI X tg iter wi) (hw : ∀ σ H R0, wi' σ H R0 → wi σ H R0) : PI X tg iter wi' := ⟨fun pins s σ H R0 I q => h.run pins s σ H R0 I (hw _ _ _ q)⟩
theorem lt_of_some {α : Type} {xs : List α} {i : Nat} {d : α} (h : xs[i]? = some d) : i < xs.length := (List.getElem?_eq_some_iff.mp h).1
theorem walks_seq (hK : Γ.K = X.K) {w : Wd} {μ : Mu} {H : Hp} {v : V} {d : D} {xs : List D} (ok : OkW Γ w μ H) (r : Rv Γ w v d) (e : seqOf μ d = some xs) :
    ∃ a, v = .ref a ∧ (((∃ vs, H a = some (.lst vs)) ∧ Walks Γ w (Itl X.K a) (still [d] μ) xs) ∨ ((∃ vs, SqT X.K H a vs) ∧ Walks Γ w (Itt X.K a) (still [d] μ) xs)) := by
  rcases strSeq e with ⟨z, rfl, rfl⟩ | hl
  · obtain ⟨a, vs, e1, hT, hR, _⟩ := r.tup_ ok
    rw [hK] at hT
    refine ⟨a, e1, .inr ⟨⟨vs, hT⟩, fun i w1 μ1 H1 le ok1 _ => ?_⟩⟩
    have r1 := r.monf le
    obtain ⟨a', vs', e2, hT', hR', _⟩ := r1.tup_ ok1
    rw [hK] at hT'
    rw [e1] at e2
    cases e2
    refine ⟨fun hi => ⟨vs', hT', by rw [hR'.len]; omega⟩, fun d hd => ?_⟩
    obtain ⟨x, hx, rx⟩ := hR'.get hd
    refine ⟨⟨vs', x, hT', hx⟩, fun y H' hy => ?_⟩
    obtain ⟨rfl, hy⟩ := hy
    have e3 := hy vs' hT'
    rw [hx] at e3
    cases e3
    exact ⟨w1, w1.refl, ok1, .val rx⟩
  · obtain ⟨a, vs, e1, hT, hR⟩ := r.lst_ ok hl
    refine ⟨a, e1, .inl ⟨⟨vs, hT⟩, fun i w1 μ1 H1 le ok1 hst => ?_⟩⟩
    have r1 := r.monf le
    have hl1 : lstOf μ1 d = some xs := by
      cases d with
      | lst z => exact hl
      | cell n =>
        have hs : decide (μ[n]? = μ1[n]?) = true := by
          have := hst
          simp only [still, List.all_cons, List.all_nil, Bool.and_true] at this
          exact this
        have hs' := of_decide_eq_true hs
        have hl' : (match μ[n]? with
          | some (.lst xs) => some xs
          | _ => none) = some xs := hl
        show (match μ1[n]? with
          | some (.lst xs) => some xs
          | _ => none) = some xs
        rw [← hs']; exact hl'
      | _ => cases hl
    obtain ⟨a', vs', e2, hT', hR'⟩ := r1.lst_ ok1 hl1
    rw [e1] at e2
    cases e2
    refine ⟨fun hi => ⟨vs', SqL.of hT', by rw [hR'.len]; omega⟩, fun d hd => ?_⟩
    obtain ⟨x, hx, rx⟩ := hR'.get hd
    refine ⟨⟨vs', x, SqL.of hT', hx⟩, fun y H' hy => ?_⟩
    obtain ⟨rfl, hy⟩ := hy
    have e3 := hy vs' (SqL.of hT')
    rw [hx] at e3
    cases e3
    exact ⟨w1, w1.refl, ok1, .val rx⟩
theorem walks_rng {w : Wd} {stl : Mu → Bool} (lo hi : Int) : Walks Γ w (Itr lo (hi - lo).toNat) stl (rngD lo hi) := by
  intro i w1 μ1 H1 le ok1 _
  have hlen : (rngD lo hi).length = (hi - lo).toNat := by simp [rngD]
  refine ⟨fun e => ?_, fun d hd => ?_⟩
  · show (hi - lo).toNat ≤ i
    omega
  · have hl := lt_of_some hd
    refine ⟨by show i < (hi - lo).toNat; omega, fun x H' hy => ?_⟩
    obtain ⟨rfl, rfl⟩ := hy
    have e : d = .int (lo + (i : Nat)) := by
      unfold rngD at hd
      rw [List.getElem?_map, List.getElem?_range (by omega)] at hd
      exact (Option.some.inj hd).symm
    subst e
    exact ⟨w1, w1.refl, ok1, .val (.int _)⟩
variable {tg e e2 : Expr} {x y : E} {p pos : Pos}
theorem walks_str {w : Wd} {stl : Mu → Bool} (z : Str) : Walks Γ w (Its z) stl (signs z) := by
  intro i w1 μ1 H1 le ok1 _
  have hlen : (signs z).length = z.cps.size := by simp [signs]
  refine ⟨fun e => ?_, fun d hd => ?_⟩
  · show z.cps.size ≤ i
    omega
  · have hl := lt_of_some hd
    refine ⟨by show i < z.cps.size; omega, fun x H' hy => ?_⟩
    obtain ⟨rfl, c, hc, rfl⟩ := hy
    have e : d = .str ⟨#[c]⟩ := by
      unfold signs at hd
      rw [List.getElem?_map, Array.getElem?_toList, hc] at hd
      exact (Option.some.inj hd).symm
    subst e
    exact ⟨w1, w1.refl, ok1, .val (.str _)⟩
theorem si_seq (hK : Γ.K = X.K) (hx : x.isSt = false) (ha : PE X e (rdE Γ W (ev cx x))) : PI X tg e (tWalk Γ W cx .seq [x]) := by
  have key : ∀ {σ : St} {H : Hp} {R0 : It → Hp → Prop}, tWalk Γ W cx .seq [x] σ H R0 → rdE Γ W (ev cx x) σ H fun v H1 => (∃ z, v = .str z ∧ R0 (Its z) H1) ∨ ∃ a, v = .ref a ∧ (((∃ vs, H1 a = some (.lst vs)) ∧ R0 (Itl X.K a) H1) ∨ ((∃ vs, SqT X.K H1 a vs) ∧ R0 (Itt X.K a) H1)) := fun {σ H R0} h =>
    rdE.mono (rdA_one hx h) fun v H1 ⟨w, μ, ds, xs, ok, rv, e, q⟩ => by
      obtain ⟨d, rfl, r⟩ := rv.one
      have gen : seqOf μ d = some xs → (∃ z, v = .str z ∧ R0 (Its z) H1) ∨ ∃ a, v = .ref a ∧ (((∃ vs, H1 a = some (.lst vs)) ∧ R0 (Itl X.K a) H1) ∨ ((∃ vs, SqT X.K H1 a vs) ∧ R0 (Itt X.K a) H1)) := fun e => by
        obtain ⟨a, e1, q1⟩ := walks_seq hK ok r e
        exact .inr ⟨a, e1, q1.elim (fun z => .inl ⟨z.1, q _ z.2⟩) fun z => .inr ⟨z.1, q _ z.2⟩⟩
      cases d <;> first | exact gen e | skip
      rename_i z
      have e2 : signs z = xs := Option.some.inj e
      refine .inl ⟨z, ?_, q _ (by rw [← e2]; exact walks_str z)⟩
      have := r.rp rfl
      cases this; rfl
  refine ⟨fun pins s σ H R0 I h => thn (ha.run pins s σ H _ I (key h)) fun v s1 ⟨u, H1, I1, r1, qq⟩ => ?_⟩
  rcases qq with ⟨z, e1, q⟩ | ⟨a, e1, q⟩
  · subst e1
    obtain ⟨t, rfl⟩ := r1
    cases ha : z.cps.all (· < 128)
    · exact wpAny_pyIter_wide ha (pi_one (tk := s1.toks) I1 _ (turn_str _ z t "str_iterator" (.inr rfl)) ⟨_, Heap.get?_push_size _ rfl, rfl, rfl⟩ q)
    · exact wpAny_pyIter_ascii ha (pi_one (tk := s1.toks) I1 _ (turn_str _ z t "str_ascii_iterator" (.inl rfl)) ⟨_, Heap.get?_push_size _ rfl, rfl, rfl⟩ q)
  · subst e1
    cases r1
    have fp : ∀ b ∈ [s1.heap.objs.size], FpOk X pins H1 b := fun b hb => by
      rw [List.mem_singleton.mp hb]
      exact I1.fpOk (Nat.le_refl _) (I1.hok.fresh (Nat.le_refl _))
    have kp : ∀ o, Inv X pins σ H1 { s1 with heap := s1.heap.push o } := fun o => I1.kept (t' := s1.toks) fun b o e => Heap.get?_push_of_some _ e
    rcases q with ⟨⟨vs, hl⟩, q⟩ | ⟨⟨vs, hl⟩, q⟩
    · obtain ⟨its, _, pl, _⟩ := I1.list (SqL.of hl)
      exact wpAny_pyIter_list pl.isList ⟨s1.heap.objs.size, [s1.heap.objs.size], _, Itl X.K a, H1, rfl, kp _, turn_list a _, ⟨_, Heap.get?_push_size _ rfl, rfl, rfl⟩, fp, q⟩
    · obtain ⟨its, _, pl, _⟩ := I1.tuple hl
      exact wpAny_pyIter_tuple (show s1.heap.IsTuple a its.toArray from pl) ⟨s1.heap.objs.size, [s1.heap.objs.size], _, Itt X.K a, H1, rfl, kp _, turn_tuple a _, ⟨_, Heap.get?_push_size _ rfl, rfl, rfl⟩, fp, q⟩
theorem si_rng1 (hg : Gl X "range") (hm : X.mg "range" = none) (hn : notSt e = true) (ha : PA X [e] (rdA Γ W (evs cx [x]))) : PI X tg (.Call (.Name "range" p) [e] [] pos) (tWalk Γ W cx .rng1 [x]) := by
  refine pi_imp (pi_range1 hg hm ha (se_plain hn)) fun σ H R0 h => rdA.mono h fun vs H1 ⟨w, μ, ds, xs, ok, rv, e, q⟩ => ?_
  match ds, e with
  | [.int i], e =>
    obtain ⟨v, rfl, r⟩ := rvs_one rv
    have e' : (if i ≤ LN ∧ -LN ≤ i then some (rngD 0 i) else none) = some xs := e
    split at e'
    · rename_i hb
      have hLN : ((LN : Nat) : Int) = 16777216 := rfl
      have e2 := Option.some.inj e'
      refine ⟨i, by rw [r.int_], by omega, by omega, q _ ?_⟩
      have := walks_rng (Γ := Γ) (w := w) (stl := still [.int i] μ) 0 i
      rw [Int.sub_zero] at this
      rw [← e2]; exact this
    · cases e'
theorem si_rng2 (hg : Gl X "range") (hm : X.mg "range" = none) (hn : notSt e = true) (hn2 : notSt e2 = true) (ha : PA X [e, e2] (rdA Γ W (evs cx [x, y]))) : PI X tg (.Call (.Name "range" p) [e, e2] [] pos) (tWalk Γ W cx .rng2 [x, y]) := by
  refine pi_imp (pi_range2 hg hm ha (by rw [se_plain hn, se_plain hn2]; rfl) (se_plain hn2)) fun σ H R0 h => rdA.mono h fun vs H1 ⟨w, μ, ds, xs, ok, rv, e, q⟩ => ?_
  match ds, e with
  | [.int i, .int j], e =>
    obtain ⟨v, u, rfl, r1, r2⟩ := rvs_two rv
    have e' : (if -LN ≤ i ∧ i ≤ LN ∧ j ≤ LN ∧ -LN ≤ j then some (rngD i j) else none) = some xs := e
    split at e'
    · rename_i hb
      have hLN : ((LN : Nat) : Int) = 16777216 := rfl
      have e2 := Option.some.inj e'
      refine ⟨i, j, by rw [r1.int_, r2.int_], ⟨by omega, by omega, by omega, by omega⟩, q _ ?_⟩
      rw [← e2]; exact walks_rng i j
    · cases e'
end
end KP
end

section
set_option maxRecDepth 100000
set_option maxHeartbeats 4000000
/-! KP11: comprehensions. -/
namespace KP
open PySem PySem.Spec PyProof.Rows L2
abbrev W0 : WX := fun _ _ _ _ => False
/-! ### a thing that is being made -/
def Wd.hide (w : Wd) (p : Addr) (o : HO) : Wd := ⟨w.Φ, w.θ, (p, o) :: w.pr⟩
section
variable {Γ : Glob} {X : Cx} {W : WX} {cx : Cxt} {C : Cv} {k : Nat} {w w' : Wd} {μ : Mu} {H : Hp} {p : Addr} {o o' : HO} {σ : St} {ρ : Rho}
theorem Wd.lf_hide : w.lf (w.hide p o) := ⟨Same.refl _, fun _ _ h => h⟩
theorem MOk.hide {a : Addr} {m : M} (h : MOk Γ w H a m) : MOk Γ (w.hide p o) H a m := h.lf Wd.lf_hide
theorem Wd.lf_show : (w.hide p o).lf w := ⟨Same.refl _, fun _ _ h => h⟩
theorem MOk.hideR {a : Addr} {m : M} (h : MOk Γ (w.hide p o) H a m) : MOk Γ w H a m := h.lf Wd.lf_show
theorem OkW.hideNew (ok : OkW Γ w μ H) (hp : H p = none) (hs : soft o = true := by rfl) : OkW Γ (w.hide p o) μ (upd H p o) := by
  have hw := ok.fresh hp
  refine ⟨fun a x e => by rw [upd_ne (ne_of_none e hw)]; exact ok.frz a x e, ok.len, ok.nd, fun n a m e1 e2 => ?_, fun q hq => ?_, ok.ntb, fun q hq => ?_, tabs_new ok.tab hp⟩
  · obtain ⟨h1, h2⟩ := ok.cel n a m e1 e2
    have ha : a ≠ p := fun z => ok.notNew hp (z ▸ List.mem_of_getElem? e1)
    exact ⟨(h1.mono w.refl fun x q => by rw [upd_ne ha]; exact q).hide, h2⟩
  · rcases List.mem_cons.mp hq with e | e
    · subst e
      exact ⟨upd_same, hw, ok.notNew hp⟩
    · obtain ⟨q1, q2, q3⟩ := ok.pro q e
      exact ⟨by rw [upd_ne (ne_of_none q1 hp)]; exact q1, q2, q3⟩
  · rcases List.mem_cons.mp hq with e | e
    · subst e; exact hs
    · exact ok.psf q e
theorem OkW.hideSet (ok : OkW Γ (w.hide p o) μ H) (hn : ∀ q ∈ w.pr, q.1 ≠ p) (hs : soft o' = true := by rfl) : OkW Γ (w.hide p o') μ (upd H p o') := by
  obtain ⟨q1, q2, q3⟩ := ok.pro (p, o) List.mem_cons_self
  dsimp only at q1 q2 q3
  refine ⟨fun a x e => by rw [upd_ne (ne_of_none e q2)]; exact ok.frz a x e, ok.len, ok.nd, fun n a m e1 e2 => ?_, fun q hq => ?_, ok.ntb, fun q hq => ?_, tabs_set ok.tab q1 (ok.psf (p, o) List.mem_cons_self)⟩
  · obtain ⟨h1, h2⟩ := ok.cel n a m e1 e2
    have ha : a ≠ p := fun z => q3 (z ▸ List.mem_of_getElem? e1)
    exact ⟨(h1.hideR.mono w.refl fun x q => by rw [upd_ne ha]; exact q).hide, h2⟩
  · rcases List.mem_cons.mp hq with e | e
    · subst e
      exact ⟨upd_same, q2, q3⟩
    · obtain ⟨r1, r2, r3⟩ := ok.pro q (List.mem_cons_of_mem _ e)
      exact ⟨by rw [upd_ne (hn q e)]; exact r1, r2, r3⟩
  · rcases List.mem_cons.mp hq with e | e
    · subst e; exact hs
    · exact ok.psf q (List.mem_cons_of_mem _ e)
theorem OkW.unhideF (ok : OkW Γ (w.hide p o) μ H) (hn : ∀ q ∈ w.pr, q.1 ≠ p) : OkW Γ (w.add p o) μ H ∧ w.le (w.add p o) ∧ w.Φ p = none := by
  obtain ⟨q1, q2, q3⟩ := ok.pro (p, o) List.mem_cons_self
  dsimp only at q1 q2 q3
  have q2' : w.Φ p = none := q2
  refine ⟨⟨fun a x e => ?_, ok.len, ok.nd, fun n a m e1 e2 => ?_, fun q hq => ?_, fun a ps e => ?_, fun q hq => ok.psf q (List.mem_cons_of_mem _ hq), ok.tab⟩, Wd.add_le q2, q2⟩
  · have e' : upd w.Φ p o a = some x := e
    by_cases ha : a = p
    · subst ha
      rw [upd_same] at e'
      cases e'; exact q1
    · rw [upd_ne ha] at e'
      exact ok.frz a x e'
  · obtain ⟨h1, h2⟩ := ok.cel n a m e1 e2
    have ha : a ≠ p := fun z => q3 (z ▸ List.mem_of_getElem? e1)
    refine ⟨h1.hideR.mono (Wd.add_le q2) fun x q => q, fun hm => ?_⟩
    show upd w.Φ p o a = none
    rw [upd_ne ha]
    exact h2 hm
  · obtain ⟨r1, r2, r3⟩ := ok.pro q (List.mem_cons_of_mem _ hq)
    refine ⟨r1, ?_, r3⟩
    show upd w.Φ p o q.1 = none
    rw [upd_ne (hn q hq)]; exact r2
  · have e' : upd w.Φ p o a = some (.tbl ps) := e
    by_cases ha : a = p
    · subst ha
      rw [upd_same] at e'
      have := ok.psf (a, o) List.mem_cons_self
      rw [Option.some.inj e'] at this
      cases this
    · rw [upd_ne ha] at e'
      exact ok.ntb a ps e'
theorem OkW.unhideC {m : M} (ok : OkW Γ (w.hide p o) μ H) (hn : ∀ q ∈ w.pr, q.1 ≠ p) (hm : MOk Γ w H p m) : OkW Γ (w.cel p) (μ ++ [m]) H ∧ w.le (w.cel p) := by
  obtain ⟨q1, q2, q3⟩ := ok.pro (p, o) List.mem_cons_self
  dsimp only at q1 q2 q3
  refine ⟨⟨ok.frz, by show (w.θ ++ [p]).length = _; rw [List.length_append, List.length_append]; exact congrArg (· + 1) ok.len, ?_, fun n a k e1 e2 => ?_, fun q hq => ?_, ok.ntb, fun q hq => ok.psf q (List.mem_cons_of_mem _ hq), ok.tab⟩, w.cel_le p⟩
  · show (w.θ ++ [p]).Nodup
    rw [List.nodup_append]
    refine ⟨ok.nd, by simp, fun a ha b hb => ?_⟩
    rw [List.mem_singleton.mp hb]
    exact fun z => q3 (z ▸ ha)
  · have e1' : (w.θ ++ [p])[n]? = some a := e1
    have hl : w.θ.length = μ.length := ok.len
    by_cases hn : n < w.θ.length
    · rw [List.getElem?_append_left hn] at e1'
      rw [List.getElem?_append_left (by rw [← hl]; exact hn)] at e2
      obtain ⟨h1, h2⟩ := ok.cel n a k e1' e2
      exact ⟨h1.hideR.mono (w.cel_le p) fun _ q => q, h2⟩
    · have hn2 : n = w.θ.length := by
        have := (List.getElem?_eq_some_iff.mp e1').1
        simp at this
        omega
      subst hn2
      have ea : p = a := by simpa using e1'
      have ek : m = k := by rw [hl] at e2; simpa using e2
      subst ea ek
      exact ⟨hm.mono (w.cel_le p) fun _ q => q, fun _ => q2⟩
  · obtain ⟨r1, r2, r3⟩ := ok.pro q (List.mem_cons_of_mem _ hq)
    refine ⟨r1, r2, fun z => ?_⟩
    rcases List.mem_append.mp z with z | z
    · exact r3 z
    · exact hn q hq (List.mem_singleton.mp z)
/-! ### targets -/
def gIdx : G → List Nat
  | .nm i => [i]
  | .tp is => is
/-- a target is stored: what is computed; other slots stay -/
def rdG (Γ : Glob) (g : G) : TG := fun v σ H Q => ∃ w ρ μ d, Good Γ w ρ μ σ H ∧ Rv Γ w v d ∧ (match tgt g d ρ μ with
  | some ρ1 => ∀ σ1, Good Γ w ρ1 μ σ1 H → σ1.length = σ.length → (∀ j, j ∉ gIdx g → σ1[j]? = σ[j]?) → Q σ1 H
  | none => False)
theorem sg_nm (S : Sx Γ C k X W) {i : Nat} {x : Str} {pos : Pos} (h : C.sto i x = true) : PG X (.Name x pos) (rdG Γ (.nm i)) := by
  obtain ⟨h1, h2, h3⟩ := S.sto h
  refine ⟨fun pins s σ H v u Q I r hh => (pg_name S.nd h1 h2 h3).run pins s σ H v u Q I r ?_⟩
  obtain ⟨w, ρ, μ, d, g, rv, p⟩ := hh
  have p' : ∀ σ1, Good Γ w (ρ.set i (some d)) μ σ1 H → σ1.length = σ.length → (∀ j, j ∉ gIdx (.nm i) → σ1[j]? = σ[j]?) → Q σ1 H := p
  refine p' _ ⟨g.st.set rv, g.ok⟩ (by simp) fun j hj => ?_
  have e : i ≠ j := fun e => hj (by simp [gIdx, e])
  rw [List.getElem?_set_ne e]
theorem pg_or {tg : Expr} {t t' : TG} (h : PG X tg t) (h' : PG X tg t') : PG X tg (fun v σ H Q => t v σ H Q ∨ t' v σ H Q) :=
  ⟨fun pins s σ H v u Q I r q => q.elim (h.run pins s σ H v u Q I r) (h'.run pins s σ H v u Q I r)⟩
/-- several names, one after another -/
def setAll : List Nat → List V → St → St
  | i :: is, v :: vs, σ => setAll is vs (σ.set i (some v))
  | _, _, σ => σ
def gNames (is : List Nat) : TGs := fun vs σ H Q => vs.length = is.length ∧ Q (setAll is vs σ) H
theorem sg_names (S : Sx Γ C k X W) : ∀ {is : List Nat} {es : List Expr}, (∀ p ∈ is.zip es, ∃ x pos, p.2 = .Name x pos ∧ C.sto p.1 x = true) → is.length = es.length → PGs X es (gNames is)
  | [], [], _, _ => ⟨fun pins s σ H vs us Q I r h => pgs_nil.run pins s σ H vs us Q I r ⟨List.eq_nil_of_length_eq_zero h.1, by
    have := h.2
    rwa [List.eq_nil_of_length_eq_zero h.1] at this⟩⟩
  | [], _ :: _, _, e => by simp at e
  | _ :: _, [], _, e => by simp at e
  | i :: is, e :: es, h, hl => by
    obtain ⟨x, pos, e1, h1⟩ := h (i, e) (by simp)
    have e1' : e = .Name x pos := e1
    subst e1'
    obtain ⟨q1, q2, q3⟩ := S.sto h1
    have ih := sg_names S (is := is) (es := es) (fun p hp => h p (by simp [hp])) (by simpa using hl)
    refine ⟨fun pins s σ H vs us Q I r hh => (pgs_cons (pg_name S.nd q1 q2 q3) ih).run pins s σ H vs us Q I r ?_⟩
    obtain ⟨h1, h2⟩ := hh
    cases vs with
    | nil => simp at h1
    | cons v vs => exact ⟨v, vs, rfl, by simpa using h1, h2⟩
theorem assignEach_names {X : Cx} : ∀ {es : List Expr}, (es.all notSt) = true → (assignEach es X.env).length = es.length ∧ (assignEach es X.env).findIdx? (·.1) = none
  | [], _ => ⟨rfl, rfl⟩
  | e :: es, h => by
    rw [List.all_cons, Bool.and_eq_true] at h
    obtain ⟨h1, h2⟩ := assignEach_names (X := X) h.2
    have e0 : assignEach (e :: es) X.env = (false, assign e X.env) :: assignEach es X.env := by
      cases e <;> first | rfl | exact absurd h.1 (by simp [notSt])
    rw [e0]
    refine ⟨by rw [List.length_cons, List.length_cons, h1], ?_⟩
    rw [List.findIdx?_cons]
    simp [h2]
theorem setAll_len : ∀ (is : List Nat) (vs : List V) (σ : St), (setAll is vs σ).length = σ.length
  | [], _, _ => rfl
  | _ :: _, [], _ => rfl
  | i :: is, v :: vs, σ => by
    show (setAll is vs (σ.set i (some v))).length = _
    rw [setAll_len, List.length_set]
theorem setAll_out : ∀ (is : List Nat) (vs : List V) (σ : St) (j : Nat), j ∉ is → (setAll is vs σ)[j]? = σ[j]?
  | [], _, _, _, _ => rfl
  | _ :: _, [], _, _, _ => rfl
  | i :: is, v :: vs, σ, j, h => by
    show (setAll is vs (σ.set i (some v)))[j]? = _
    rw [setAll_out is vs _ j (fun z => h (List.mem_cons_of_mem _ z)), List.getElem?_set_ne fun e => h (by rw [e]; exact List.mem_cons_self)]
theorem RSt.setAll {w : Wd} : ∀ {is : List Nat} {vs : List V} {ds : List D} {σ : St} {ρ : Rho}, Rvs Γ w vs ds → vs.length = is.length → RSt Γ w σ ρ → RSt Γ w (setAll is vs σ) ((is.zip ds).foldl (fun ρ p => ρ.set p.1 (some p.2)) ρ)
  | [], vs, ds, σ, ρ, _, _, h => by
    cases vs <;> exact h
  | i :: is, [], _, _, _, _, e, _ => by simp at e
  | i :: is, v :: vs, [], _, _, r, _, _ => r.elim
  | i :: is, v :: vs, d :: ds, σ, ρ, r, e, h => RSt.setAll (is := is) r.2 (by simpa using e) (h.set r.1)
theorem sg_tp (hK : Γ.K = X.K) (S : Sx Γ C k X W) {is : List Nat} {es : List Expr} {kk : Nat} {pos : Pos} (h : ∀ p ∈ is.zip es, ∃ x pos, p.2 = .Name x pos ∧ C.sto p.1 x = true) (hl : is.length = es.length) (hes : es.all notSt = true) : PG X (.Tuple es kk pos) (rdG Γ (.tp is)) := by
  obtain ⟨a1, a2⟩ := assignEach_names (X := X) hes
  have hp := sg_names S h hl
  refine ⟨fun pins s σ H v u Q I r hh => (pg_or (pg_tup S.calm hp a1 a2) (pg_unl S.calm hp a1 a2)).run pins s σ H v u Q I r ?_⟩
  obtain ⟨w, ρ, μ, d, g, rv, p⟩ := hh
  have p' : (match (match seqOf μ d with
      | some xs => if xs.length = is.length then some ((is.zip xs).foldl (fun ρ p => ρ.set p.1 (some p.2)) ρ) else none
      | none => none) with
    | some ρ1 => ∀ σ1, Good Γ w ρ1 μ σ1 H → σ1.length = σ.length → (∀ j, j ∉ gIdx (.tp is) → σ1[j]? = σ[j]?) → Q σ1 H
    | none => False) := p
  cases hs : seqOf μ d with
  | none => rw [hs] at p'; exact p'.elim
  | some xs =>
    rw [hs] at p'
    dsimp only at p'
    split at p'
    · rename_i ρ1 hρ
      split at hρ
      · rename_i hlen
        have e2 := Option.some.inj hρ
        subst e2
        obtain ⟨a, vs, e1, hT, hR⟩ := rv.seq_ g.ok hs
        have hv : vs.length = is.length := by rw [hR.len, hlen]
        have q := p' (setAll is vs σ) ⟨RSt.setAll (Rvs.ofRps hR) hv g.st, g.ok⟩ (setAll_len _ _ _) fun j hj => setAll_out _ _ _ j hj
        rw [hK] at hT
        rcases hT with hT | hT
        · exact .inr ⟨a, vs, e1, SqL.of hT, by rw [hv, hl], hv, q⟩
        · exact .inl ⟨a, vs, e1, hT, by rw [hv, hl], hv, q⟩
      · cases hρ
    · exact p'.elim
end
end KP
end

section
set_option maxRecDepth 100000
set_option maxHeartbeats 4000000
/-! KP12: a comprehension of one for. -/
namespace KP
open PySem PySem.Spec PyProof.Rows L2
section
variable {Γ : Glob} {X : Cx} {W : WX} {cx : Cxt} {C : Cv} {k : Nat}
theorem wipe_len (σ : St) (vs : List Nat) : (wipe σ vs).length = σ.length := wipe_length σ vs
theorem wipe_in : ∀ (vs : List Nat) (σ : St) (j : Nat), j ∈ vs → j < σ.length → (wipe σ vs)[j]? = some none
  | [], _, _, h, _ => by cases h
  | v :: vs, σ, j, h, hl => by
    show ((wipe σ vs).set v none)[j]? = some none
    by_cases e : v = j
    · subst e
      rw [List.getElem?_set_self (by rw [wipe_len]; exact hl)]
    · rw [List.getElem?_set_ne e]
      exact wipe_in vs σ j ((List.mem_cons.mp h).resolve_left fun z => e z.symm) hl
theorem wipe_out : ∀ (vs : List Nat) (σ : St) (j : Nat), j ∉ vs → (wipe σ vs)[j]? = σ[j]?
  | [], _, _, _ => rfl
  | v :: vs, σ, j, h => by
    show ((wipe σ vs).set v none)[j]? = _
    rw [List.getElem?_set_ne fun e => h (by rw [e]; exact List.mem_cons_self)]
    exact wipe_out vs σ j fun z => h (List.mem_cons_of_mem _ z)
theorem wipe_same {σ σ1 : St} {vs : List Nat} {is : List Nat} (hs : ∀ i ∈ is, i ∈ vs) (hl : σ1.length = (wipe σ vs).length) (hj : ∀ j, j ∉ is → σ1[j]? = (wipe σ vs)[j]?) : wipe σ1 vs = wipe σ vs := by
  have hl' : σ1.length = σ.length := hl.trans (wipe_len _ _)
  apply List.ext_getElem?
  intro j
  by_cases h : j ∈ vs
  · by_cases hlt : j < σ.length
    · rw [wipe_in vs σ j h hlt, wipe_in vs σ1 j h (by omega)]
    · rw [List.getElem?_eq_none (by rw [wipe_len]; omega), List.getElem?_eq_none (by rw [wipe_len]; omega)]
  · rw [wipe_out vs σ1 j h, hj j fun z => h (hs j z)]
theorem wipeR_len : ∀ (vs : List Nat) (ρ : Rho), (wipeR ρ vs).length = ρ.length
  | [], _ => rfl
  | v :: vs, ρ => by
    show (wipeR (ρ.set v none) vs).length = _
    rw [wipeR_len vs, List.length_set]
theorem wipeR_some : ∀ (vs : List Nat) (ρ : Rho) (j : Nat) (d : D), (wipeR ρ vs)[j]? = some (some d) → j ∉ vs ∧ ρ[j]? = some (some d)
  | [], _, _, _, h => ⟨by simp, h⟩
  | v :: vs, ρ, j, d, h => by
    obtain ⟨h1, h2⟩ := wipeR_some vs (ρ.set v none) j d h
    by_cases e : v = j
    · subst e
      by_cases hl : v < ρ.length
      · rw [List.getElem?_set_self hl] at h2
        cases h2
      · rw [List.getElem?_eq_none (by rw [List.length_set]; omega)] at h2
        cases h2
    · rw [List.getElem?_set_ne e] at h2
      exact ⟨fun z => (List.mem_cons.mp z).elim (fun z => e z.symm) h1, h2⟩
theorem RSt.wipe_ {w : Wd} {σ : St} {ρ : Rho} (h : RSt Γ w σ ρ) (vs : List Nat) : RSt Γ w (wipe σ vs) (wipeR ρ vs) := by
  refine ⟨by rw [wipeR_len, wipe_len]; exact h.len, fun j d e => ?_⟩
  obtain ⟨h1, h2⟩ := wipeR_some vs ρ j d e
  obtain ⟨v, h3, h4⟩ := h.at_ j d h2
  exact ⟨v, by rw [wipe_out vs σ j h1]; exact h3, h4⟩
/-- the tests of a comprehension -/
abbrev rdC (Γ : Glob) (W : WX) (cx : Cxt) (cs : List E) : TT := rdB Γ W (fun ρ μ => evc cx cs ρ μ)
theorem sc_nil : PTs X [] (rdC Γ W cx []) := ⟨fun pins s σ H Q I h => pts_nil.run pins s σ H Q I (by
  obtain ⟨w, ρ, μ, ds, g, rv, p⟩ := h
  exact p w H w.refl g.ok)⟩
theorem sc_one {c : Expr} {x : E} (h : PT X c (rdT Γ W cx x)) : PTs X [c] (rdC Γ W cx [x]) := ⟨fun pins s σ H Q I hh => (pts_one h).run pins s σ H Q I (by
  obtain ⟨w, ρ, μ, ds, g, rv, p⟩ := hh
  refine ⟨w, ρ, μ, [], g, trivial, ?_⟩
  simp only [evc_cons, evc_nil] at p
  dsimp only
  revert p
  generalize evb cx x ρ μ = r
  intro p
  cases r with
  | ok b μ1 =>
    cases b <;> exact p
  | exc c ns vs μ1 => exact p
  | stuck => exact p)⟩
/-- the list is made -/
theorem made_end {nw : Bool} {w' : Wd} {D : Addr} {av : List V} {acc : List KP.D} {μ' : Mu} {H2 : Hp} {σ : St} {Q : VK} (ok : OkW Γ (w'.hide D (.lst av)) μ' H2) (hpr' : ∀ q ∈ w'.pr, q.1 ≠ D) (hR : Rps Γ w'.Φ av acc) (hz : acc.length ≤ LN) (p : postE Γ W σ w' Q (nwR nw (.ok (.lst acc) μ'))) : Q (.ref D) H2 := by
  obtain ⟨q1, _, _⟩ := ok.pro (D, .lst av) List.mem_cons_self
  cases nw with
  | false =>
    obtain ⟨o1, l1, n1⟩ := ok.unhideF hpr'
    exact p _ (.ref D) H2 l1 o1 (.val (.lst upd_same (Rps.mono l1.1 _ _ hR) hz))
  | true =>
    have hm : MOk Γ w' H2 D (.lst acc) := ⟨av, q1, hR⟩
    obtain ⟨o1, l1⟩ := ok.unhideC hpr' hm
    have p4 : postE Γ W σ w' Q (.ok (.cell μ'.length) (μ' ++ [.lst acc])) := p
    exact p4 _ (.ref D) H2 l1 o1 (.inl ⟨μ'.length, D, rfl, by
      have hl : w'.θ.length = μ'.length := ok.len
      show (w'.θ ++ [D])[μ'.length]? = some D
      rw [← hl, List.getElem?_append_right (Nat.le_refl _), Nat.sub_self]
      rfl, rfl⟩)
theorem lc_of {nw : Bool} {ow : List Nat} {x : E} {g : G} {kk : ItK} {es cs : List E} (hg : ∀ i ∈ gIdx g, i ∈ ow) {σ : St} {H : Hp} {Q : VK} (h : rdE Γ W (fun ρ μ => nwR nw (ev cx (.cmp ow x g kk es cs) ρ μ)) σ H Q) :
    tLc (tWalk Γ W cx kk es) (rdG Γ g) (rdC Γ W0 cx cs) (rdE Γ W0 (ev cx x)) ow σ H Q := by
  have h1 : RD Γ W [] (fun ds ρ μ => (evs cx es ρ μ).bind fun vs μ1 => (fun ds ρ μ1 => match itD kk ds μ1 with
      | some xs => if xs.length ≤ LN then (compL (still ds μ1) (turnC cx ow x g cs ρ) xs [] μ1).bind fun ys μ => nwR nw (.ok (.lst ys) μ) else .stuck
      | none => .stuck) (ds ++ vs) ρ μ1) σ H Q := by
    obtain ⟨w, ρ, μ, ds, g0, rv, p⟩ := h
    refine ⟨w, ρ, μ, [], g0, trivial, ?_⟩
    simp only [ev_cmp, nwR_bind] at p
    dsimp only [List.nil_append]
    refine Eq.mp (congrArg _ ?_) p
    congr 1
    funext vs μ1
    cases itD kk vs μ1 with
    | none => cases nw <;> rfl
    | some xs =>
      dsimp only
      split
      · rw [nwR_bind]
      · cases nw <;> rfl
  refine rdA.mono (RD.evals (f := fun ds ρ μ1 => match itD kk ds μ1 with
      | some xs => if xs.length ≤ LN then (compL (still ds μ1) (turnC cx ow x g cs ρ) xs [] μ1).bind fun ys μ => nwR nw (.ok (.lst ys) μ) else .stuck
      | none => .stuck) h1) fun vs H1 h2 => ?_
  obtain ⟨w, ρ, μ, ds, gd, rv, p⟩ := h2
  dsimp only at p
  cases hit : itD kk ds μ with
  | none => rw [hit] at p; exact p.elim
  | some xs =>
    rw [hit] at p
    dsimp only at p
    split at p
    · rename_i hxs
      refine ⟨w, μ, ds, xs, gd.ok, rv, hit, fun J hJ D hD => ?_⟩
      have hpr : ∀ q ∈ w.pr, q.1 ≠ D := fun q hq => ne_of_none (gd.ok.pro q hq).1 hD
      refine ⟨fun i m H => ∃ (w' : Wd) (μ' : Mu) (acc : List KP.D) (av : List V), w.le w' ∧ OkW Γ (w'.hide D (.lst av)) μ' H ∧ Rps Γ w'.Φ av acc ∧ acc.length ≤ i ∧ i ≤ xs.length ∧ m = xs.length - i ∧
        postE Γ W σ w' Q ((compL (still ds μ) (turnC cx ow x g cs ρ) (xs.drop i) acc μ').bind fun ys μ => nwR nw (.ok (.lst ys) μ)), ⟨xs.length, w, μ, [], [], w.refl, gd.ok.hideNew hD, .nil, Nat.zero_le _, Nat.zero_le _, rfl, p⟩, ?_⟩
      rintro i m H2 ⟨w', μ', acc, av, le, ok, hR, hacc, hi, rfl, p⟩
      have lf : w.lf (w'.hide D (.lst av)) := le.lf.trans Wd.lf_hide
      have hpr' : ∀ q ∈ w'.pr, q.1 ≠ D := by rw [le.2.2]; exact hpr
      by_cases hlt : i < xs.length
      · have hd : xs[i]? = some xs[i] := List.getElem?_eq_getElem hlt
        have hdrop : xs.drop i = xs[i] :: xs.drop (i + 1) := List.drop_eq_getElem_cons hlt
        rw [hdrop, compL] at p
        split at p
        · rename_i hst
          obtain ⟨_, hgo⟩ := hJ i _ μ' H2 lf ok hst
          obtain ⟨go, yl⟩ := hgo _ hd
          refine .inr ⟨go, fun H3 => ∃ (w'' : Wd) (μ'' : Mu) (acc : List KP.D) (av : List V), w.le w'' ∧ OkW Γ (w''.hide D (.lst av)) μ'' H3 ∧ Rps Γ w''.Φ av acc ∧ acc.length ≤ i + 1 ∧
            postE Γ W σ w'' Q ((compL (still ds μ) (turnC cx ow x g cs ρ) (xs.drop (i + 1)) acc μ'').bind fun ys μ => nwR nw (.ok (.lst ys) μ)), ?_, ?_⟩
          · rintro H3 ⟨w'', μ'', acc2, av2, le2, ok2, hR2, ha2, p2⟩
            exact ⟨xs.length - (i + 1), by omega, w'', μ'', acc2, av2, le2, ok2, hR2, ha2, hlt, rfl, p2⟩
          · intro xv H3 hy
            obtain ⟨w2, le2, ok2, rx⟩ := yl xv H3 hy
            have st2 : RSt Γ w2 (wipe σ ow) (wipeR ρ ow) := (gd.st.monf (lf.trans le2.lf)).wipe_ ow
            refine ⟨w2, wipeR ρ ow, μ', xs[i], ⟨st2, ok2⟩, rx, ?_⟩
            unfold turnC at p
            cases ht : tgt g xs[i] (wipeR ρ ow) μ' with
            | none => rw [ht] at p; exact p.elim
            | some ρ1 =>
              rw [ht] at p
              dsimp only at p ⊢
              intro σ1 gd1 hl1 hj1
              refine ⟨wipe_same hg hl1 hj1, w2, ρ1, μ', [], gd1, trivial, ?_⟩
              dsimp only
              -- what stands behind a turn, in the world w3
              have back : ∀ (w3 : Wd), w2.le w3 → w3.pr = (D, .lst av) :: w'.pr ∧ w'.le ⟨w3.Φ, w3.θ, w'.pr⟩ := fun w3 le3 => ⟨by rw [le3.2.2, le2.2.2]; rfl, ⟨(le2.1.trans le3.1 : Same w'.Φ w3.Φ), fun n a q => le3.2.1 n a (le2.2.1 n a q), rfl⟩⟩
              cases hc : evc cx cs ρ1 μ' with
              | exc c ns vs μ3 => rw [hc] at p; exact p.elim
              | stuck => rw [hc] at p; exact p.elim
              | ok b μ3 =>
                rw [hc] at p
                intro w3 H4 le3 ok3
                cases b with
                | false =>
                  obtain ⟨e3, lb⟩ := back w3 le3
                  have ok3' : OkW Γ (Wd.hide ⟨w3.Φ, w3.θ, w'.pr⟩ D (.lst av)) μ3 H4 := by
                    have e4 : Wd.hide ⟨w3.Φ, w3.θ, w'.pr⟩ D (.lst av) = w3 := by
                      obtain ⟨a, b, c⟩ := w3
                      have e3' : c = (D, .lst av) :: w'.pr := e3
                      subst e3'; rfl
                    rw [e4]; exact ok3
                  simp only [Bool.false_eq_true, if_false]
                  exact ⟨⟨w3.Φ, w3.θ, w'.pr⟩, μ3, acc, av, Wd.trans le lb, ok3', Rps.mono lb.1 _ _ hR, by omega, postE.mono lb p⟩
                | true =>
                  simp only [if_true]
                  refine ⟨w3, ρ1, μ3, [], ⟨gd1.st.mono le3, ok3⟩, trivial, ?_⟩
                  dsimp only at p ⊢
                  rw [R.ok_bind] at p
                  cases he : ev cx x ρ1 μ3 with
                  | exc c ns vs μ4 => dsimp only at p; rw [he] at p; exact p.elim
                  | stuck => dsimp only at p; rw [he] at p; exact p.elim
                  | ok y μ4 =>
                    dsimp only at p
                    rw [he] at p
                    intro w4 yv H5 le4 ok4 ry
                    obtain ⟨e3, lb⟩ := back w4 (Wd.trans le3 le4)
                    have ok4' : OkW Γ (Wd.hide ⟨w4.Φ, w4.θ, w'.pr⟩ D (.lst av)) μ4 H5 := by
                      have e4 : Wd.hide ⟨w4.Φ, w4.θ, w'.pr⟩ D (.lst av) = w4 := by
                        obtain ⟨a, b, c⟩ := w4
                        have e3' : c = (D, .lst av) :: w'.pr := e3
                        subst e3'; rfl
                      rw [e4]; exact ok4
                    obtain ⟨q1, _, _⟩ := ok4'.pro (D, .lst av) List.mem_cons_self
                    have p3 : postE Γ W σ w' Q ((if y.isCell = true then R.stuck else compL (still ds μ) (turnC cx ow x g cs ρ) (xs.drop (i + 1)) (acc ++ [y]) μ4).bind fun ys μ => nwR nw (.ok (.lst ys) μ)) := p
                    split at p3
                    · exact p3.elim
                    · rename_i hy2
                      have ry' : Rp Γ w4.Φ yv y := ry.rp (by simpa using hy2)
                      have hav : av.length = acc.length := hR.len
                      have hR' : Rps Γ w4.Φ (av ++ [yv]) (acc ++ [y]) := (Rps.mono lb.1 _ _ hR).app (.cons ry' .nil)
                      refine ⟨av, q1, by show av.length < LN; omega, ⟨w4.Φ, w4.θ, w'.pr⟩, μ4, acc ++ [y], av ++ [yv], Wd.trans le lb, ok4'.hideSet hpr', hR', by rw [List.length_append]; simp; omega, postE.mono lb p3⟩
        · exact p.elim
      · have e : i = xs.length := by omega
        have hdrop : xs.drop i = [] := List.drop_eq_nil_of_le (by omega)
        rw [hdrop, compL] at p
        split at p
        · rename_i hst
          refine .inl ⟨(hJ i _ μ' H2 lf ok hst).1 e, ?_⟩
          have hz : acc.length ≤ LN := by omega
          rw [R.ok_bind] at p
          exact made_end ok hpr' hR hz p
        · exact p.elim
    · exact p.elim
/-! ### two fors -/
/-- what stands while a list is being made at D -/
def Mk2 (Γ : Glob) (w : Wd) (D : Addr) (acc : List KP.D) (av : List V) (w' : Wd) (μ' : Mu) (H : Hp) : Prop := w.le w' ∧ OkW Γ (w'.hide D (.lst av)) μ' H ∧ Rps Γ w'.Φ av acc
theorem hide_back {w' w2 w3 : Wd} {D : Addr} {o : HO} (le2 : (w'.hide D o).le w2) (le3 : w2.le w3) : w3.pr = (D, o) :: w'.pr ∧ w'.le ⟨w3.Φ, w3.θ, w'.pr⟩ ∧ Wd.hide ⟨w3.Φ, w3.θ, w'.pr⟩ D o = w3 := by
  have e3 : w3.pr = (D, o) :: w'.pr := by rw [le3.2.2, le2.2.2]; rfl
  refine ⟨e3, ⟨(le2.1.trans le3.1 : Same w'.Φ w3.Φ), fun n a q => le3.2.1 n a (le2.2.1 n a q), rfl⟩, ?_⟩
  obtain ⟨a, b, c⟩ := w3
  have e3' : c = (D, o) :: w'.pr := e3
  subst e3'; rfl
theorem lc2_of {nw : Bool} {ow ow1 : List Nat} {x : E} {g g1 : G} {kk k1 : ItK} {es cs es1 cs1 : List E} (hg : ∀ i ∈ gIdx g, i ∈ ow) (hg1 : ∀ i ∈ gIdx g1, i ∈ ow1) {σ : St} {H : Hp} {Q : VK} (h : rdE Γ W (fun ρ μ => nwR nw (ev cx (.cmp2 ow ow1 x g kk es cs g1 k1 es1 cs1) ρ μ)) σ H Q) :
    tLc2 (tWalk Γ W cx kk es) (rdG Γ g) (rdC Γ W0 cx cs) (tWalk Γ W0 cx k1 es1) (rdG Γ g1) (rdC Γ W0 cx cs1) (rdE Γ W0 (ev cx x)) ow ow1 σ H Q := by
  have h1 : RD Γ W [] (fun ds ρ μ => (evs cx es ρ μ).bind fun vs μ1 => (fun ds ρ μ1 => match itD kk ds μ1 with
      | some xs => if xs.length ≤ LN then (compO (still ds μ1) (turnO cx ow ow1 x g cs g1 k1 es1 cs1 ρ) xs [] μ1).bind fun ys μ => nwR nw (.ok (.lst ys) μ) else .stuck
      | none => .stuck) (ds ++ vs) ρ μ1) σ H Q := by
    obtain ⟨w, ρ, μ, ds, g0, rv, p⟩ := h
    refine ⟨w, ρ, μ, [], g0, trivial, ?_⟩
    simp only [ev_cmp2, nwR_bind] at p
    dsimp only [List.nil_append]
    refine Eq.mp (congrArg _ ?_) p
    congr 1
    funext vs μ1
    cases itD kk vs μ1 with
    | none => cases nw <;> rfl
    | some xs =>
      dsimp only
      split
      · rw [nwR_bind]
      · cases nw <;> rfl
  refine rdA.mono (RD.evals (f := fun ds ρ μ1 => match itD kk ds μ1 with
      | some xs => if xs.length ≤ LN then (compO (still ds μ1) (turnO cx ow ow1 x g cs g1 k1 es1 cs1 ρ) xs [] μ1).bind fun ys μ => nwR nw (.ok (.lst ys) μ) else .stuck
      | none => .stuck) h1) fun vs H1 h2 => ?_
  obtain ⟨w, ρ, μ, ds, gd, rv, p⟩ := h2
  dsimp only at p
  cases hit : itD kk ds μ with
  | none => rw [hit] at p; exact p.elim
  | some xs =>
    rw [hit] at p
    dsimp only at p
    split at p
    · rename_i hxs
      refine ⟨w, μ, ds, xs, gd.ok, rv, hit, fun J hJ D hD => ?_⟩
      have hpr : ∀ q ∈ w.pr, q.1 ≠ D := fun q hq => ne_of_none (gd.ok.pro q hq).1 hD
      -- what stands ahead of turn i
      let Out : Nat → Hp → Prop := fun i H => ∃ (w' : Wd) (μ' : Mu) (acc : List KP.D) (av : List V), Mk2 Γ w D acc av w' μ' H ∧ acc.length ≤ LN ∧
        postE Γ W σ w' Q ((compO (still ds μ) (turnO cx ow ow1 x g cs g1 k1 es1 cs1 ρ) (xs.drop i) acc μ').bind fun ys μ => nwR nw (.ok (.lst ys) μ))
      refine ⟨fun i m H => i ≤ xs.length ∧ m = xs.length - i ∧ Out i H, ⟨xs.length, Nat.zero_le _, rfl, w, μ, [], [], ⟨w.refl, gd.ok.hideNew hD, .nil⟩, Nat.zero_le _, p⟩, ?_⟩
      rintro i m H2 ⟨hi, rfl, w', μ', acc, av, ⟨le, ok, hR⟩, hacc, p⟩
      have lf : w.lf (w'.hide D (.lst av)) := le.lf.trans Wd.lf_hide
      have hpr' : ∀ q ∈ w'.pr, q.1 ≠ D := by rw [le.2.2]; exact hpr
      by_cases hlt : i < xs.length
      · have hd : xs[i]? = some xs[i] := List.getElem?_eq_getElem hlt
        have hdrop : xs.drop i = xs[i] :: xs.drop (i + 1) := List.drop_eq_getElem_cons hlt
        rw [hdrop, compO] at p
        split at p
        · rename_i hst
          obtain ⟨_, hgo⟩ := hJ i _ μ' H2 lf ok hst
          obtain ⟨go, yl⟩ := hgo _ hd
          refine .inr ⟨go, Out (i + 1), fun H' q => ⟨xs.length - (i + 1), by omega, hlt, rfl, q⟩, fun xv H3 hy => ?_⟩
          obtain ⟨w2, le2, ok2, rx⟩ := yl xv H3 hy
          have st2 : RSt Γ w2 (wipe σ ow) (wipeR ρ ow) := (gd.st.monf (lf.trans le2.lf)).wipe_ ow
          refine ⟨w2, wipeR ρ ow, μ', xs[i], ⟨st2, ok2⟩, rx, ?_⟩
          rw [turnO] at p
          cases ht : tgt g xs[i] (wipeR ρ ow) μ' with
          | none => rw [ht] at p; exact p.elim
          | some ρ1 =>
            rw [ht] at p
            dsimp only at p ⊢
            intro σ1 gd1 hl1 hj1
            refine ⟨wipe_same hg hl1 hj1, w2, ρ1, μ', [], gd1, trivial, ?_⟩
            dsimp only
            cases hc : evc cx cs ρ1 μ' with
            | exc c ns vs μ3 => rw [hc] at p; exact p.elim
            | stuck => rw [hc] at p; exact p.elim
            | ok b μ3 =>
              rw [hc] at p
              intro w3 H4 le3 ok3
              cases b with
              | false =>
                obtain ⟨e3, lb, e4⟩ := hide_back le2 le3
                simp only [Bool.false_eq_true, if_false]
                exact ⟨⟨w3.Φ, w3.θ, w'.pr⟩, μ3, acc, av, ⟨Wd.trans le lb, by rw [e4]; exact ok3, Rps.mono lb.1 _ _ hR⟩, hacc, postE.mono lb p⟩
              | true =>
                simp only [if_true]
                rw [R.ok_bind] at p
                dsimp only at p
                refine ⟨w3, ρ1, μ3, [], ⟨gd1.st.mono le3, ok3⟩, trivial, ?_⟩
                dsimp only
                cases hes : evs cx es1 ρ1 μ3 with
                | exc c ns vs μ4 => rw [hes] at p; exact p.elim
                | stuck => rw [hes] at p; exact p.elim
                | ok vs1 μ4 =>
                  rw [hes] at p
                  rw [R.ok_bind] at p
                  intro w4 vv H5 le4 ok4 rv4
                  cases hit1 : itD k1 vs1 μ4 with
                  | none => rw [hit1] at p; exact p.elim
                  | some ys =>
                    rw [hit1] at p
                    dsimp only at p
                    split at p
                    · rename_i hys
                      refine ⟨w4, μ4, vs1, ys, ok4, rv4, hit1, fun J1 hJ1 => ?_⟩
                      have gd4 : RSt Γ w4 σ1 ρ1 := gd1.st.mono (Wd.trans le3 le4)
                      obtain ⟨e40, lb4, e44⟩ := hide_back le2 (Wd.trans le3 le4)
                      -- the inner turns
                      refine ⟨fun j n H => j ≤ ys.length ∧ n = ys.length - j ∧ ∃ (w' : Wd) (μ' : Mu) (acc : List KP.D) (av : List V), Mk2 Γ ⟨w4.Φ, w4.θ, w.pr⟩ D acc av w' μ' H ∧ acc.length + (ys.length - j) ≤ LN ∧
                        postE Γ W σ w' Q (((compL (still vs1 μ4) (turnC cx ow1 x g1 cs1 ρ1) (ys.drop j) acc μ').calm.bind fun acc μz => compO (still ds μ) (turnO cx ow ow1 x g cs g1 k1 es1 cs1 ρ) (xs.drop (i + 1)) acc μz).bind fun ys μ => nwR nw (.ok (.lst ys) μ)),
                        ⟨ys.length, Nat.zero_le _, rfl, ⟨w4.Φ, w4.θ, w'.pr⟩, μ4, acc, av, ⟨by rw [le.2.2]; exact Wd.refl _, by rw [e44]; exact ok4, Rps.mono lb4.1 _ _ hR⟩, by omega, by rw [List.drop_zero]; exact postE.mono lb4 p⟩, ?_⟩
                      rintro j n H6 ⟨hj, rfl, w5, μ5, acc5, av5, ⟨le5, ok5, hR5⟩, hacc5, p5⟩
                      have pr5 : w5.pr = w.pr := le5.2.2
                      have lf5 : w4.lf (w5.hide D (.lst av5)) := Wd.lf.trans ⟨le5.1, le5.2.1⟩ Wd.lf_hide
                      have hpr5 : ∀ q ∈ w5.pr, q.1 ≠ D := by rw [pr5]; exact hpr
                      have wle5 : w.le w5 := by
                        refine Wd.trans ?_ le5
                        have := Wd.trans le lb4
                        exact ⟨this.1, this.2.1, rfl⟩
                      by_cases hlt5 : j < ys.length
                      · have hd5 : ys[j]? = some ys[j] := List.getElem?_eq_getElem hlt5
                        have hdrop5 : ys.drop j = ys[j] :: ys.drop (j + 1) := List.drop_eq_getElem_cons hlt5
                        rw [hdrop5, compL] at p5
                        split at p5
                        · rename_i hst5
                          obtain ⟨_, hgo5⟩ := hJ1 j _ μ5 H6 lf5 ok5 hst5
                          obtain ⟨go5, yl5⟩ := hgo5 _ hd5
                          refine .inr ⟨go5, fun H => ∃ (w' : Wd) (μ' : Mu) (acc : List KP.D) (av : List V), Mk2 Γ ⟨w4.Φ, w4.θ, w.pr⟩ D acc av w' μ' H ∧ acc.length + (ys.length - (j + 1)) ≤ LN ∧
                            postE Γ W σ w' Q (((compL (still vs1 μ4) (turnC cx ow1 x g1 cs1 ρ1) (ys.drop (j + 1)) acc μ').calm.bind fun acc μz => compO (still ds μ) (turnO cx ow ow1 x g cs g1 k1 es1 cs1 ρ) (xs.drop (i + 1)) acc μz).bind fun ys μ => nwR nw (.ok (.lst ys) μ)),
                            fun H' q => ⟨ys.length - (j + 1), by omega, hlt5, rfl, q⟩, fun yv H7 hy5 => ?_⟩
                          obtain ⟨w6, le6, ok6, ry⟩ := yl5 yv H7 hy5
                          have st6 : RSt Γ w6 (wipe σ1 ow1) (wipeR ρ1 ow1) := (gd4.monf (lf5.trans le6.lf)).wipe_ ow1
                          refine ⟨w6, wipeR ρ1 ow1, μ5, ys[j], ⟨st6, ok6⟩, ry, ?_⟩
                          rw [turnC] at p5
                          cases ht5 : tgt g1 ys[j] (wipeR ρ1 ow1) μ5 with
                          | none => rw [ht5] at p5; exact p5.elim
                          | some ρ2 =>
                            rw [ht5] at p5
                            dsimp only at p5 ⊢
                            intro σ3 gd3 hl3 hj3
                            refine ⟨wipe_same hg1 hl3 hj3, w6, ρ2, μ5, [], gd3, trivial, ?_⟩
                            dsimp only
                            cases hc5 : evc cx cs1 ρ2 μ5 with
                            | exc c ns vs μ7 => rw [hc5] at p5; exact p5.elim
                            | stuck => rw [hc5] at p5; exact p5.elim
                            | ok b5 μ7 =>
                              rw [hc5] at p5
                              intro w7 H8 le7 ok7
                              cases b5 with
                              | false =>
                                obtain ⟨e7, lb7, e77⟩ := hide_back le6 le7
                                simp only [Bool.false_eq_true, if_false]
                                exact ⟨⟨w7.Φ, w7.θ, w5.pr⟩, μ7, acc5, av5, ⟨Wd.trans le5 lb7, by rw [e77]; exact ok7, Rps.mono lb7.1 _ _ hR5⟩, by omega, postE.mono lb7 p5⟩
                              | true =>
                                simp only [if_true]
                                refine ⟨w7, ρ2, μ7, [], ⟨gd3.st.mono le7, ok7⟩, trivial, ?_⟩
                                dsimp only at p5 ⊢
                                rw [R.ok_bind] at p5
                                cases he : ev cx x ρ2 μ7 with
                                | exc c ns vs μ8 => dsimp only at p5; rw [he] at p5; exact p5.elim
                                | stuck => dsimp only at p5; rw [he] at p5; exact p5.elim
                                | ok y μ8 =>
                                  dsimp only at p5
                                  rw [he] at p5
                                  intro w8 zv H9 le8 ok8 rz
                                  obtain ⟨e8, lb8, e88⟩ := hide_back le6 (Wd.trans le7 le8)
                                  have ok8' : OkW Γ (Wd.hide ⟨w8.Φ, w8.θ, w5.pr⟩ D (.lst av5)) μ8 H9 := by rw [e88]; exact ok8
                                  obtain ⟨q1, _, _⟩ := ok8'.pro (D, .lst av5) List.mem_cons_self
                                  have p6 : postE Γ W σ w5 Q (((if y.isCell = true then R.stuck else compL (still vs1 μ4) (turnC cx ow1 x g1 cs1 ρ1) (ys.drop (j + 1)) (acc5 ++ [y]) μ8).calm.bind fun acc μz => compO (still ds μ) (turnO cx ow ow1 x g cs g1 k1 es1 cs1 ρ) (xs.drop (i + 1)) acc μz).bind fun ys μ => nwR nw (.ok (.lst ys) μ)) := p5
                                  split at p6
                                  · exact p6.elim
                                  · rename_i hy2
                                    have rz' : Rp Γ w8.Φ zv y := rz.rp (by simpa using hy2)
                                    have hav : av5.length = acc5.length := hR5.len
                                    exact ⟨av5, q1, by show av5.length < LN; omega, ⟨w8.Φ, w8.θ, w5.pr⟩, μ8, acc5 ++ [y], av5 ++ [zv], ⟨Wd.trans le5 lb8, ok8'.hideSet hpr5, (Rps.mono lb8.1 _ _ hR5).app (.cons rz' .nil)⟩, by rw [List.length_append]; simp; omega, postE.mono lb8 p6⟩
                        · exact p5.elim
                      · have e : j = ys.length := by omega
                        have hdrop5 : ys.drop j = [] := List.drop_eq_nil_of_le (by omega)
                        rw [hdrop5, compL] at p5
                        split at p5
                        · rename_i hst5
                          refine .inl ⟨(hJ1 j _ μ5 H6 lf5 ok5 hst5).1 e, w5, μ5, acc5, av5, ⟨wle5, ok5, hR5⟩, by omega, by simpa only [R.calm, R.ok_bind] using p5⟩
                        · exact p5.elim
                    · exact p.elim
        · exact p.elim
      · have e : i = xs.length := by omega
        have hdrop : xs.drop i = [] := List.drop_eq_nil_of_le (by omega)
        rw [hdrop, compO] at p
        split at p
        · rename_i hst
          refine .inl ⟨(hJ i _ μ' H2 lf ok hst).1 e, ?_⟩
          rw [R.ok_bind] at p
          exact made_end ok hpr' hR hacc p
        · exact p.elim
    · exact p.elim
end
end KP
end

section
set_option maxRecDepth 100000
set_option maxHeartbeats 4000000
/-! KP13: statements. -/
namespace KP
open PySem PySem.Spec PyProof.Rows L2
section
variable (Γ : Glob)
def postS (W : WX) (w : Wd) (Z : Ends) : R F → Prop
  | .ok (.nx ρ) μ => ∀ w' σ' H', w.le w' → Good Γ w' ρ μ σ' H' → Z.nx σ' H'
  | .ok (.ret d) μ => ∀ w' v H', w.le w' → OkW Γ w' μ H' → Rv Γ w' v d → Z.rt v H'
  | .ok (.brk ρ) μ => ∀ w' σ' H', w.le w' → Good Γ w' ρ μ σ' H' → Z.bk σ' H'
  | .ok (.cont ρ) μ => ∀ w' σ' H', w.le w' → Good Γ w' ρ μ σ' H' → Z.ct σ' H'
  | .exc c ns vs μ => ∀ w' σ' H' dx, w.le w' → OkW Γ w' μ H' → ExcAt Γ w' H' dx ns vs → W (.ref (Γ.cls c)) (some dx) σ' H'
  | .stuck => False
def RDS (W : WX) (vs : List V) (f : List D → Rho → Mu → R F) : TS := fun Z σ H => ∃ w ρ μ ds, Good Γ w ρ μ σ H ∧ Rvs Γ w vs ds ∧ postS Γ W w Z (f ds ρ μ)
abbrev rdS (W : WX) (m : Rho → Mu → R F) : TS := RDS Γ W [] fun _ => m
end
section
variable {Γ : Glob} {X : Cx} {W : WX} {cx : Cxt} {C : Cv} {k : Nat} {w w' : Wd} {Z : Ends} {σ : St} {H : Hp} {vs : List V}
theorem postS.mono {r : R F} (e : w.le w') (h : postS Γ W w Z r) : postS Γ W w' Z r := by
  cases r with
  | ok f μ => cases f with
    | nx ρ => exact fun w1 σ' H' le g => h w1 σ' H' (Wd.trans e le) g
    | ret d => exact fun w1 v H' le ok r => h w1 v H' (Wd.trans e le) ok r
    | brk ρ => exact fun w1 σ' H' le g => h w1 σ' H' (Wd.trans e le) g
    | cont ρ => exact fun w1 σ' H' le g => h w1 σ' H' (Wd.trans e le) g
  | exc c ns vs μ => exact fun w1 σ' H' dx le ok x => h w1 σ' H' dx (Wd.trans e le) ok x
  | stuck => exact h
theorem postS.imp {Z' : Ends} {r : R F} (h : postS Γ W w Z r) (h1 : ∀ σ H, Z.nx σ H → Z'.nx σ H) (h2 : ∀ v H, Z.rt v H → Z'.rt v H) (h3 : ∀ σ H, Z.bk σ H → Z'.bk σ H) (h4 : ∀ σ H, Z.ct σ H → Z'.ct σ H) : postS Γ W w Z' r := by
  cases r with
  | ok f μ => cases f with
    | nx ρ => exact fun w1 σ' H' le g => h1 _ _ (h w1 σ' H' le g)
    | ret d => exact fun w1 v H' le ok r => h2 _ _ (h w1 v H' le ok r)
    | brk ρ => exact fun w1 σ' H' le g => h3 _ _ (h w1 σ' H' le g)
    | cont ρ => exact fun w1 σ' H' le g => h4 _ _ (h w1 σ' H' le g)
  | exc c ns vs μ => exact h
  | stuck => exact h
theorem RDS.eval {m : Rho → Mu → R D} {f : List D → Rho → Mu → R F} (h : RDS Γ W vs (fun ds ρ μ => (m ρ μ).bind fun d μ => f (ds ++ [d]) ρ μ) Z σ H) : rdE Γ W m σ H fun v H1 => RDS Γ W (vs ++ [v]) f Z σ H1 := by
  obtain ⟨w, ρ, μ, ds, g, rv, p⟩ := h
  refine ⟨w, ρ, μ, [], g, trivial, ?_⟩
  dsimp only at p ⊢
  generalize m ρ μ = r at p ⊢
  cases r with
  | ok d μ1 => exact fun w1 v H1 le ok r => ⟨w1, ρ, μ1, ds ++ [d], ⟨g.st.mono le, ok⟩, (rv.mono le).snoc r, p.mono le⟩
  | exc c ns xs μ1 => exact fun w1 H1 dx le ok x => p w1 σ H1 dx le ok x
  | stuck => exact p
theorem RDS.evals {m : Rho → Mu → R (List D)} {f : List D → Rho → Mu → R F} (h : RDS Γ W vs (fun ds ρ μ => (m ρ μ).bind fun d μ => f (ds ++ d) ρ μ) Z σ H) : rdA Γ W m σ H fun us H1 => RDS Γ W (vs ++ us) f Z σ H1 := by
  obtain ⟨w, ρ, μ, ds, g, rv, p⟩ := h
  refine ⟨w, ρ, μ, [], g, trivial, ?_⟩
  dsimp only at p ⊢
  generalize m ρ μ = r at p ⊢
  cases r with
  | ok d μ1 => exact fun w1 v H1 le ok r => ⟨w1, ρ, μ1, ds ++ d, ⟨g.st.mono le, ok⟩, (rv.mono le).app r, p.mono le⟩
  | exc c ns xs μ1 => exact fun w1 H1 dx le ok x => p w1 σ H1 dx le ok x
  | stuck => exact p
theorem RDS.test {m : Rho → Mu → R Bool} {f : Bool → List D → Rho → Mu → R F} (h : RDS Γ W vs (fun ds ρ μ => (m ρ μ).bind fun d μ => f d ds ρ μ) Z σ H) : rdB Γ W m σ H fun b H1 => RDS Γ W vs (f b) Z σ H1 := by
  obtain ⟨w, ρ, μ, ds, g, rv, p⟩ := h
  refine ⟨w, ρ, μ, [], g, trivial, ?_⟩
  dsimp only at p ⊢
  generalize m ρ μ = r at p ⊢
  cases r with
  | ok d μ1 => exact fun w1 H1 le ok => ⟨w1, ρ, μ1, ds, ⟨g.st.mono le, ok⟩, rv.mono le, p.mono le⟩
  | exc c ns xs μ1 => exact fun w1 H1 dx le ok x => p w1 σ H1 dx le ok x
  | stuck => exact p
variable {st : Stmt} {rest b1 b2 : List Stmt} {a e : Expr} {x y : E} {pos pos' : Pos} {ss s1 s2 : List S} {s0 : S}
/-! ### blocks -/
theorem ss_nil : PSs X [] (rdS Γ W (exs cx [])) := ⟨fun pins s σ H Z I h => pss_nil.run pins s σ H Z I (by
  obtain ⟨w, ρ, μ, ds, g, rv, p⟩ := h
  exact p w σ H w.refl g)⟩
def seqF (cx : Cxt) (ss : List S) : F → Mu → R F := fun f μ => match f with
  | .nx ρ' => exs cx ss ρ' μ
  | .ret d => .ok (.ret d) μ
  | .brk ρ' => .ok (.brk ρ') μ
  | .cont ρ' => .ok (.cont ρ') μ
theorem exs_cons {ρ : Rho} {μ : Mu} : exs cx (s0 :: ss) ρ μ = (ex cx s0 ρ μ).bind (seqF cx ss) := rfl
theorem ss_cons (h1 : PS X st (rdS Γ W (ex cx s0))) (h2 : PSs X rest (rdS Γ W (exs cx ss))) : PSs X (st :: rest) (rdS Γ W (exs cx (s0 :: ss))) := by
  refine ⟨fun pins s σ H Z I h => (pss_cons h1 h2).run pins s σ H Z I ?_⟩
  obtain ⟨w, ρ, μ, ds, g, rv, p⟩ := h
  refine ⟨w, ρ, μ, [], g, trivial, ?_⟩
  dsimp only at p ⊢
  rw [exs_cons] at p
  revert p
  generalize ex cx s0 ρ μ = r
  intro p
  cases r with
  | ok f μ1 => cases f with
    | nx ρ1 => exact fun w1 σ1 H1 le g1 => ⟨w1, ρ1, μ1, [], g1, trivial, postS.mono le p⟩
    | ret d => exact p
    | brk ρ1 => exact p
    | cont ρ1 => exact p
  | exc c ns xs μ1 => exact p
  | stuck => exact p
theorem ss_one (h1 : PS X st (rdS Γ W (ex cx s0))) : PSs X [st] (rdS Γ W (exs cx [s0])) := ss_cons h1 ss_nil
/-! ### small ones -/
theorem ss_pass : PS X (.Pass pos) (rdS Γ W (ex cx .pass)) := ⟨fun pins s σ H Z I h => ps_pass.run pins s σ H Z I (by
  obtain ⟨w, ρ, μ, ds, g, rv, p⟩ := h
  exact p w σ H w.refl g)⟩
theorem ss_brk : PS X (.Break pos) (rdS Γ W (ex cx .brk)) := ⟨fun pins s σ H Z I h => ps_break.run pins s σ H Z I (by
  obtain ⟨w, ρ, μ, ds, g, rv, p⟩ := h
  exact p w σ H w.refl g)⟩
theorem ss_cont : PS X (.Continue pos) (rdS Γ W (ex cx .cont)) := ⟨fun pins s σ H Z I h => ps_continue.run pins s σ H Z I (by
  obtain ⟨w, ρ, μ, ds, g, rv, p⟩ := h
  exact p w σ H w.refl g)⟩
theorem ss_ret0 : PS X (.Return none pos) (rdS Γ W (ex cx .ret0)) := ⟨fun pins s σ H Z I h => ps_retN.run pins s σ H Z I (by
  obtain ⟨w, ρ, μ, ds, g, rv, p⟩ := h
  exact p w .non H w.refl g.ok (.val .non))⟩
theorem retEval {m : Rho → Mu → R D} (h : rdS Γ W (fun ρ μ => (m ρ μ).bind fun d μ => .ok (.ret d) μ) Z σ H) : rdE Γ W m σ H Z.rt := by
  have h1 : RDS Γ W [] (fun ds ρ μ => (m ρ μ).bind fun d μ => (fun ds (_ : Rho) μ => .ok (.ret (ds.headD .non)) μ) (ds ++ [d]) ρ μ) Z σ H := by
    obtain ⟨w, ρ, μ, ds, g, rv, p⟩ := h
    exact ⟨w, ρ, μ, [], g, trivial, p⟩
  refine rdE.mono (RDS.eval (f := fun ds (_ : Rho) μ => .ok (.ret (ds.headD .non)) μ) h1) fun v H1 h2 => ?_
  obtain ⟨w, ρ, μ, ds, g, rv, p⟩ := h2
  obtain ⟨d, rfl, r⟩ := rv.one
  exact p w v H1 w.refl g.ok r
theorem ss_ret (ha : PE X a (rdE Γ W (ev cx x))) : PS X (.Return (some a) pos) (rdS Γ W (ex cx (.ret x))) :=
  ⟨fun pins s σ H Z I h => (ps_ret ha).run pins s σ H Z I (retEval h)⟩
theorem ss_retn (ha : PE X a (rdE Γ W fun ρ μ => nwR true (ev cx x ρ μ))) : PS X (.Return (some a) pos) (rdS Γ W (ex cx (.retn x))) :=
  ⟨fun pins s σ H Z I h => (ps_ret ha).run pins s σ H Z I (retEval h)⟩
theorem ss_ex (ha : PE X a (rdE Γ W (ev cx x))) (hs : swapsWith a none pos.line X.env = pure false) : PS X (.Expr a pos) (rdS Γ W (ex cx (.ex x))) := by
  refine ⟨fun pins s σ H Z I h => (ps_expr ha hs).run pins s σ H Z I ?_⟩
  have h1 : RDS Γ W [] (fun ds ρ μ => (ev cx x ρ μ).bind fun d μ => (fun _ (ρ : Rho) μ => .ok (.nx ρ) μ) (ds ++ [d]) ρ μ) Z σ H := by
    obtain ⟨w, ρ, μ, ds, g, rv, p⟩ := h
    exact ⟨w, ρ, μ, [], g, trivial, p⟩
  refine rdE.mono (RDS.eval (f := fun _ (ρ : Rho) μ => .ok (.nx ρ) μ) h1) fun v H1 h2 => ?_
  obtain ⟨w, ρ, μ, ds, g, rv, p⟩ := h2
  exact p w σ H1 w.refl g
theorem ss_ife {c : Expr} (hc : PT X c (rdT Γ W cx x)) (h1 : PSs X b1 (rdS Γ W (exs cx s1))) (h2 : PSs X b2 (rdS Γ W (exs cx s2))) : PS X (.If c b1 b2 pos) (rdS Γ W (ex cx (.ife x s1 s2))) := by
  refine ⟨fun pins s σ H Z I h => (ps_if hc h1 h2).run pins s σ H Z I ?_⟩
  have h3 : RDS Γ W [] (fun ds ρ μ => (evb cx x ρ μ).bind fun b μ => match b with
      | true => exs cx s1 ρ μ
      | false => exs cx s2 ρ μ) Z σ H := h
  refine rdB.mono (RDS.test (f := fun b _ ρ μ => match b with
      | true => exs cx s1 ρ μ
      | false => exs cx s2 ρ μ) h3) fun b H1 q => ?_
  cases b with
  | true => exact q
  | false => exact q
/-! ### stores -/
theorem asgEval {m : Rho → Mu → R D} {i : Nat} (h : rdS Γ W (fun ρ μ => (m ρ μ).bind fun d μ => .ok (.nx (ρ.set i (some d))) μ) Z σ H) : rdE Γ W m σ H fun v H1 => gName i v σ H1 Z.nx := by
  have h1 : RDS Γ W [] (fun ds ρ μ => (m ρ μ).bind fun d μ => (fun ds (ρ : Rho) μ => .ok (.nx (ρ.set i (some (ds.headD .non)))) μ) (ds ++ [d]) ρ μ) Z σ H := by
    obtain ⟨w, ρ, μ, ds, g, rv, p⟩ := h
    exact ⟨w, ρ, μ, [], g, trivial, p⟩
  refine rdE.mono (RDS.eval (f := fun ds (ρ : Rho) μ => .ok (.nx (ρ.set i (some (ds.headD .non)))) μ) h1) fun v H1 h2 => ?_
  obtain ⟨w, ρ, μ, ds, g, rv, p⟩ := h2
  obtain ⟨d, rfl, r⟩ := rv.one
  exact p w _ H1 w.refl ⟨g.st.set r, g.ok⟩
theorem ss_set (S : Sx Γ C k X W) {i : Nat} {z : Str} (hz : C.sto i z = true) (ha : PE X a (rdE Γ W (ev cx x))) (hs : swapsWith a (some (.Name z pos')) pos.line X.env = pure false) : PS X (.Assign [.Name z pos'] a pos) (rdS Γ W (ex cx (.set i x))) := by
  obtain ⟨h1, h2, h3⟩ := S.sto hz
  exact ⟨fun pins s σ H Z I h => (ps_set S.nd h1 h2 ha hs h3).run pins s σ H Z I (asgEval h)⟩
theorem ss_new (S : Sx Γ C k X W) {i : Nat} {z : Str} (hz : C.sto i z = true) (ha : PE X a (rdE Γ W fun ρ μ => nwR true (ev cx x ρ μ))) (hs : swapsWith a (some (.Name z pos')) pos.line X.env = pure false) : PS X (.Assign [.Name z pos'] a pos) (rdS Γ W (ex cx (.new i x))) := by
  obtain ⟨h1, h2, h3⟩ := S.sto hz
  exact ⟨fun pins s σ H Z I h => (ps_set S.nd h1 h2 ha hs h3).run pins s σ H Z I (asgEval h)⟩
theorem ss_unp {is : List Nat} {tg : Expr} (hg : PG X tg (rdG Γ (.tp is))) (ha : PE X a (rdE Γ W (ev cx x))) (hs : swapsWithSole [tg] a pos.line X.env = pure false) (hw : swappedStores [tg] a X.env = pure none) (h1 : (assignEach [tg] X.env).map (·.2) = [assign tg X.env]) : PS X (.Assign [tg] a pos) (rdS Γ W (ex cx (.unp is x))) := by
  refine ⟨fun pins s σ H Z I h => (ps_asg ha hg hs hw h1).run pins s σ H Z I ?_⟩
  have h1 : RDS Γ W [] (fun ds ρ μ => (ev cx x ρ μ).bind fun d μ => (fun ds ρ μ => match tgt (.tp is) (ds.headD .non) ρ μ with
      | some ρ' => .ok (.nx ρ') μ
      | none => .stuck) (ds ++ [d]) ρ μ) Z σ H := by
    obtain ⟨w, ρ, μ, ds, g, rv, p⟩ := h
    exact ⟨w, ρ, μ, [], g, trivial, p⟩
  refine rdE.mono (RDS.eval (f := fun ds ρ μ => match tgt (.tp is) (ds.headD .non) ρ μ with
      | some ρ' => .ok (.nx ρ') μ
      | none => .stuck) h1) fun v H1 h2 => ?_
  obtain ⟨w, ρ, μ, ds, g, rv, p⟩ := h2
  obtain ⟨d, rfl, r⟩ := rv.one
  refine ⟨w, ρ, μ, d, g, r, ?_⟩
  have p' : postS Γ W w Z (match tgt (.tp is) d ρ μ with
      | some ρ' => .ok (.nx ρ') μ
      | none => .stuck) := p
  revert p'
  cases tgt (.tp is) d ρ μ with
  | none => exact fun p => p
  | some ρ1 => exact fun p σ1 g1 _ _ => p w σ1 H1 w.refl g1
/-! ### comprehensions -/
/-- the block of a comprehension -/
def Cv.blk (C : Cv) (scope : Scope) : Cv := { C with sc := relS scope C.sc, st := fun x => scope.names.lookup x == some .cell, bl := true }
theorem Sx.blk (S : Sx Γ C k X W) (scope : Scope) (s : Shared) (H : Hp) (Cc : Addr) (cl : List (Str × Addr)) (fp : List Addr) : Sx Γ (C.blk scope) k (X.blk s H scope (compEnvC scope cl Cc X.env) fp) W0 where
  hK := S.hK
  hN := S.hN
  sc := by show relS scope X.env.scope = relS scope C.sc; rw [S.sc]
  nd := S.nd
  calm := S.calm
  room := S.room
  gd := S.gd
  tk := fun h => by cases (show true = false from h)
  po := fun h => by cases (show true = false from h)
  stk := fun h => by cases (show true = false from h)
  frm := fun h => by cases (show true = false from h)
  pa := fun σ => passAt (fun _ _ x => by
    obtain ⟨_, _, _, _, _, _, _, _, _, _, _, _, _, _, _, _, z⟩ := x
    exact z.elim) σ
  gl := S.gl
  stq := fun x hx => hx
  lmk := fun q hq => let h := S.lmk q hq; ⟨h.room, h.nm, h.tab⟩
  nmk := S.nmk
/-- what holds in the block -/
structure BlkP (Γ : Glob) (X : Cx) (cx : Cxt) (scope : Scope) (tg : Expr) (g : G) (ifs : List Expr) (cs : List E) (elt : Expr) (x : E) : Prop where
  hg : ∀ (s : Shared) (H : Hp) (Cc : Addr) (cl : List (Str × Addr)) (fp : List Addr), PG (X.blk s H scope (compEnvC scope cl Cc X.env) fp) tg (rdG Γ g)
  ht : ∀ (s : Shared) (H : Hp) (Cc : Addr) (cl : List (Str × Addr)) (fp : List Addr), PTs (X.blk s H scope (compEnvC scope cl Cc X.env) fp) ifs (rdC Γ W0 cx cs)
  he : ∀ (s : Shared) (H : Hp) (Cc : Addr) (cl : List (Str × Addr)) (fp : List Addr), PE (X.blk s H scope (compEnvC scope cl Cc X.env) fp) elt (rdE Γ W0 (ev cx x))
theorem s_cmp1 {nw : Bool} (S : Sx Γ C k X W) {own : List (Str × Nat)} {scope : Scope} {tg iter elt : Expr} {ifs : List Expr} {g : G} {kk : ItK} {es cs : List E} (ok : BlkOk X.N X.env.scope scope own) (hgi : ∀ i ∈ gIdx g, i ∈ own.map (·.2)) (hi : PI X tg iter (tWalk Γ W cx kk es)) (B : BlkP Γ X cx scope tg g ifs cs elt x) (hs : ∀ x, foldedSetIterable iter X.env x = pure x) :
    PE X (.ListComp elt [⟨tg, iter, ifs, 0⟩] scope pos) (rdE Γ W fun ρ μ => nwR nw (ev cx (.cmp (own.map (·.2)) x g kk es cs) ρ μ)) :=
  ⟨fun pins s σ H Q I h => (pe_lc S.calm S.nd hi ok B.hg B.ht B.he hs).run pins s σ H Q I (lc_of hgi h)⟩
theorem ss_cmp {nw : Bool} (S : Sx Γ C k X W) {own : List (Str × Nat)} {scope : Scope} {tg iter elt : Expr} {ifs : List Expr} {g : G} {kk : ItK} {es cs : List E} {i : Nat} {z : Str} {spos : Pos} (ok : BlkOk X.N X.env.scope scope own) (hgi : ∀ i ∈ gIdx g, i ∈ own.map (·.2)) (hi : PI X tg iter (tWalk Γ W cx kk es)) (B : BlkP Γ X cx scope tg g ifs cs elt x) (hs : ∀ x, foldedSetIterable iter X.env x = pure x)
    (hz : X.N[i]? = some z) (hzl : X.env.scope.names.lookup z = some .local) (hsw : swapsWith (.ListComp elt [⟨tg, iter, ifs, 0⟩] scope pos) (some (.Name z pos')) spos.line X.env = pure true) :
    PS X (.Assign [.Name z pos'] (.ListComp elt [⟨tg, iter, ifs, 0⟩] scope pos) spos) (rdS Γ W fun ρ μ => (nwR nw (ev cx (.cmp (own.map (·.2)) x g kk es cs) ρ μ)).bind fun d μ => .ok (.nx (ρ.set i (some d))) μ) := by
  exact ⟨fun pins s σ H Z I h => (ps_setLc S.calm S.nd hz hzl hsw hi ok B.hg B.ht B.he hs).run pins s σ H Z I (lc_of hgi (asgEval h))⟩
/-- what holds in the block of two fors -/
structure BlkP2 (Γ : Glob) (X : Cx) (cx : Cxt) (scope : Scope) (tg : Expr) (g : G) (ifs : List Expr) (cs : List E) (tg1 iter1 : Expr) (k1 : ItK) (es1 : List E) (g1 : G) (ifs1 : List Expr) (cs1 : List E) (elt : Expr) (x : E) : Prop where
  hg : ∀ (s : Shared) (H : Hp) (Cc : Addr) (cl : List (Str × Addr)) (fp : List Addr), PG (X.blk s H scope (compEnvC scope cl Cc X.env) fp) tg (rdG Γ g)
  ht : ∀ (s : Shared) (H : Hp) (Cc : Addr) (cl : List (Str × Addr)) (fp : List Addr), PTs (X.blk s H scope (compEnvC scope cl Cc X.env) fp) ifs (rdC Γ W0 cx cs)
  hi1 : ∀ (s : Shared) (H : Hp) (Cc : Addr) (cl : List (Str × Addr)) (fp : List Addr), PI (X.blk s H scope (compEnvC scope cl Cc X.env) fp) tg1 iter1 (tWalk Γ W0 cx k1 es1)
  hg1 : ∀ (s : Shared) (H : Hp) (Cc : Addr) (cl : List (Str × Addr)) (fp : List Addr), PG (X.blk s H scope (compEnvC scope cl Cc X.env) fp) tg1 (rdG Γ g1)
  ht1 : ∀ (s : Shared) (H : Hp) (Cc : Addr) (cl : List (Str × Addr)) (fp : List Addr), PTs (X.blk s H scope (compEnvC scope cl Cc X.env) fp) ifs1 (rdC Γ W0 cx cs1)
  he : ∀ (s : Shared) (H : Hp) (Cc : Addr) (cl : List (Str × Addr)) (fp : List Addr), PE (X.blk s H scope (compEnvC scope cl Cc X.env) fp) elt (rdE Γ W0 (ev cx x))
theorem s_cmp2 {nw : Bool} (S : Sx Γ C k X W) {own : List (Str × Nat)} {ow1 : List Nat} {scope : Scope} {tg iter tg1 iter1 elt : Expr} {ifs ifs1 : List Expr} {g g1 : G} {kk k1 : ItK} {es cs es1 cs1 : List E} (ok : BlkOk X.N X.env.scope scope own) (hv : ∀ i ∈ ow1, i ∈ own.map (·.2)) (hgi : ∀ i ∈ gIdx g, i ∈ own.map (·.2)) (hgi1 : ∀ i ∈ gIdx g1, i ∈ ow1) (hi : PI X tg iter (tWalk Γ W cx kk es)) (B : BlkP2 Γ X cx scope tg g ifs cs tg1 iter1 k1 es1 g1 ifs1 cs1 elt x) (hs : ∀ x, foldedSetIterable iter X.env x = pure x) (hs1 : ∀ env x, foldedSetIterable iter1 env x = pure x) :
    PE X (.ListComp elt [⟨tg, iter, ifs, 0⟩, ⟨tg1, iter1, ifs1, 0⟩] scope pos) (rdE Γ W fun ρ μ => nwR nw (ev cx (.cmp2 (own.map (·.2)) ow1 x g kk es cs g1 k1 es1 cs1) ρ μ)) :=
  ⟨fun pins s σ H Q I h => (pe_lc2 S.calm S.nd hi ok hv B.hg B.ht B.hi1 B.hg1 B.ht1 B.he hs hs1).run pins s σ H Q I (lc2_of hgi hgi1 h)⟩
theorem ss_cmp2 {nw : Bool} (S : Sx Γ C k X W) {own : List (Str × Nat)} {ow1 : List Nat} {scope : Scope} {tg iter tg1 iter1 elt : Expr} {ifs ifs1 : List Expr} {g g1 : G} {kk k1 : ItK} {es cs es1 cs1 : List E} {i : Nat} {z : Str} {spos : Pos} (ok : BlkOk X.N X.env.scope scope own) (hv : ∀ i ∈ ow1, i ∈ own.map (·.2)) (hgi : ∀ i ∈ gIdx g, i ∈ own.map (·.2)) (hgi1 : ∀ i ∈ gIdx g1, i ∈ ow1) (hi : PI X tg iter (tWalk Γ W cx kk es)) (B : BlkP2 Γ X cx scope tg g ifs cs tg1 iter1 k1 es1 g1 ifs1 cs1 elt x) (hs : ∀ x, foldedSetIterable iter X.env x = pure x) (hs1 : ∀ env x, foldedSetIterable iter1 env x = pure x)
    (hz : X.N[i]? = some z) (hzl : X.env.scope.names.lookup z = some .local) (hsw : swapsWith (.ListComp elt [⟨tg, iter, ifs, 0⟩, ⟨tg1, iter1, ifs1, 0⟩] scope pos) (some (.Name z pos')) spos.line X.env = pure true) :
    PS X (.Assign [.Name z pos'] (.ListComp elt [⟨tg, iter, ifs, 0⟩, ⟨tg1, iter1, ifs1, 0⟩] scope pos) spos) (rdS Γ W fun ρ μ => (nwR nw (ev cx (.cmp2 (own.map (·.2)) ow1 x g kk es cs g1 k1 es1 cs1) ρ μ)).bind fun d μ => .ok (.nx (ρ.set i (some d))) μ) := by
  exact ⟨fun pins s σ H Z I h => (ps_setLc2 S.calm S.nd hz hzl hsw hi ok hv B.hg B.ht B.hi1 B.hg1 B.ht1 B.he hs hs1).run pins s σ H Z I (lc2_of hgi hgi1 (asgEval h))⟩
/-! ### loops -/
theorem for_of {g : G} {kk : ItK} {es : List E} {ss : List S} (h : rdS Γ W (ex cx (.for g kk es ss)) Z σ H) : tFor (tWalk Γ W cx kk es) (rdG Γ g) (rdS Γ W (exs cx ss)) Z σ H := by
  have h1 : RDS Γ W [] (fun ds ρ μ => (evs cx es ρ μ).bind fun vs μ1 => (fun ds ρ μ1 => match itD kk ds μ1 with
      | some xs => forL (still ds μ1) g (fun ρ μ => exs cx ss ρ μ) xs ρ μ1
      | none => .stuck) (ds ++ vs) ρ μ1) Z σ H := by
    obtain ⟨w, ρ, μ, ds, g0, rv, p⟩ := h
    exact ⟨w, ρ, μ, [], g0, trivial, p⟩
  refine rdA.mono (RDS.evals (f := fun ds ρ μ1 => match itD kk ds μ1 with
      | some xs => forL (still ds μ1) g (fun ρ μ => exs cx ss ρ μ) xs ρ μ1
      | none => .stuck) h1) fun vs H1 h2 => ?_
  obtain ⟨w, ρ, μ, ds, gd, rv, p⟩ := h2
  dsimp only at p
  cases hit : itD kk ds μ with
  | none => rw [hit] at p; exact p.elim
  | some xs =>
    rw [hit] at p
    dsimp only at p
    refine ⟨w, μ, ds, xs, gd.ok, rv, hit, fun J hJ => ?_⟩
    refine ⟨fun i m σ' H' => ∃ w' ρ' μ', w.le w' ∧ Good Γ w' ρ' μ' σ' H' ∧ i ≤ xs.length ∧ m = xs.length - i ∧ postS Γ W w' Z (forL (still ds μ) g (fun ρ μ => exs cx ss ρ μ) (xs.drop i) ρ' μ'), ⟨xs.length, w, ρ, μ, w.refl, gd, Nat.zero_le _, rfl, p⟩, ?_⟩
    rintro i m σ2 H2 ⟨w', ρ', μ', le, gd2, hi, rfl, p⟩
    by_cases hlt : i < xs.length
    · have hd : xs[i]? = some xs[i] := List.getElem?_eq_getElem hlt
      have hdrop : xs.drop i = xs[i] :: xs.drop (i + 1) := List.drop_eq_getElem_cons hlt
      rw [hdrop, forL] at p
      split at p
      · rename_i hst
        obtain ⟨_, hgo⟩ := hJ i _ μ' H2 le.lf gd2.ok hst
        obtain ⟨go, yl⟩ := hgo _ hd
        refine .inr ⟨go, fun σ3 H3 => ∃ w'' ρ'' μ'', w.le w'' ∧ Good Γ w'' ρ'' μ'' σ3 H3 ∧ postS Γ W w'' Z (forL (still ds μ) g (fun ρ μ => exs cx ss ρ μ) (xs.drop (i + 1)) ρ'' μ''), ?_, ?_⟩
        · rintro σ3 H3 ⟨w'', ρ'', μ'', le3, gd3, p3⟩
          exact ⟨xs.length - (i + 1), by omega, w'', ρ'', μ'', le3, gd3, hlt, rfl, p3⟩
        · intro xv H3 hy
          obtain ⟨w2, le2, ok2, rx⟩ := yl xv H3 hy
          refine ⟨w2, ρ', μ', xs[i], ⟨gd2.st.mono le2, ok2⟩, rx, ?_⟩
          cases ht : tgt g xs[i] ρ' μ' with
          | none => rw [ht] at p; exact p.elim
          | some ρ1 =>
            rw [ht] at p
            dsimp only at p ⊢
            intro σ1 gd1 _ _
            refine ⟨w2, ρ1, μ', [], gd1, trivial, ?_⟩
            have p2 := postS.mono le2 p
            dsimp only
            revert p2
            generalize exs cx ss ρ1 μ' = r
            intro p2
            cases r with
            | ok f μ3 => cases f with
              | nx ρ3 => exact fun w3 σ3 H4 le3 g3 => ⟨w3, ρ3, μ3, Wd.trans (Wd.trans le le2) le3, g3, postS.mono le3 p2⟩
              | cont ρ3 => exact fun w3 σ3 H4 le3 g3 => ⟨w3, ρ3, μ3, Wd.trans (Wd.trans le le2) le3, g3, postS.mono le3 p2⟩
              | brk ρ3 => exact p2
              | ret d => exact p2
            | exc c ns vs μ3 => exact p2
            | stuck => exact p2
      · exact p.elim
    · have e : i = xs.length := by omega
      have hdrop : xs.drop i = [] := List.drop_eq_nil_of_le (by omega)
      rw [hdrop, forL] at p
      split at p
      · rename_i hst
        exact .inl ⟨(hJ i _ μ' H2 le.lf gd2.ok hst).1 e, p w' σ2 H2 w'.refl gd2⟩
      · exact p.elim
theorem ss_for (S : Sx Γ C k X W) (hbl : C.bl = false) {tg iter : Expr} {g : G} {kk : ItK} {es : List E} (hi : PI X tg iter (tWalk Γ W cx kk es)) (hg : PG X tg (rdG Γ g)) (hb : PSs X b1 (rdS Γ W (exs cx ss))) (hs : ∀ x, foldedSetIterable iter X.env x = pure x) : PS X (.For tg iter b1 [] pos) (rdS Γ W (ex cx (.for g kk es ss))) :=
  ⟨fun pins s σ H Z I h => (ps_for (S.po hbl) S.calm hi hg hb hs).run pins s σ H Z I (for_of h)⟩
theorem whl_of {x : E} {ss : List S} (h : rdS Γ W (ex cx (.whl x ss)) Z σ H) : tWhile (rdT Γ W cx x) (rdS Γ W (exs cx ss)) Z σ H := by
  obtain ⟨w, ρ, μ, ds, gd, rv, p⟩ := h
  refine ⟨fun m σ' H' => ∃ w' ρ' μ', w.le w' ∧ Good Γ w' ρ' μ' σ' H' ∧ postS Γ W w' Z (whlL (fun ρ μ => evb cx x ρ μ) (fun ρ μ => exs cx ss ρ μ) m ρ' μ'), ⟨WF, w, ρ, μ, w.refl, gd, p⟩, ?_⟩
  rintro m σ2 H2 ⟨w', ρ', μ', le, gd2, p⟩
  cases m with
  | zero => exact p.elim
  | succ m =>
    rw [whlL] at p
    refine ⟨w', ρ', μ', [], gd2, trivial, ?_⟩
    dsimp only at p ⊢
    revert p
    generalize evb cx x ρ' μ' = r
    intro p
    cases r with
    | exc c ns vs μ3 => exact fun w1 H1 dx le ok x => p w1 _ H1 dx le ok x
    | stuck => exact p
    | ok b μ3 =>
      intro w3 H3 le3 ok3
      cases b with
      | false =>
        rw [if_neg Bool.false_ne_true]
        exact p w3 σ2 H3 le3 ⟨gd2.st.mono le3, ok3⟩
      | true =>
        rw [if_pos rfl]
        refine ⟨fun σ4 H4 => ∃ w'' ρ'' μ'', w.le w'' ∧ Good Γ w'' ρ'' μ'' σ4 H4 ∧ postS Γ W w'' Z (whlL (fun ρ μ => evb cx x ρ μ) (fun ρ μ => exs cx ss ρ μ) m ρ'' μ''), fun σ4 H4 q => ⟨m, Nat.lt_succ_self m, q⟩, ?_⟩
        refine ⟨w3, ρ', μ3, [], ⟨gd2.st.mono le3, ok3⟩, trivial, ?_⟩
        have p2 := postS.mono le3 p
        dsimp only at p2 ⊢
        revert p2
        rw [R.ok_bind]
        dsimp only
        generalize exs cx ss ρ' μ3 = r
        intro p2
        cases r with
        | ok f μ5 => cases f with
          | nx ρ5 => exact fun w5 σ5 H5 le5 g5 => ⟨w5, ρ5, μ5, Wd.trans (Wd.trans le le3) le5, g5, postS.mono le5 p2⟩
          | cont ρ5 => exact fun w5 σ5 H5 le5 g5 => ⟨w5, ρ5, μ5, Wd.trans (Wd.trans le le3) le5, g5, postS.mono le5 p2⟩
          | brk ρ5 => exact p2
          | ret d => exact p2
        | exc c ns vs μ5 => exact p2
        | stuck => exact p2
theorem ss_whl (S : Sx Γ C k X W) (hbl : C.bl = false) {c : Expr} (hc : PT X c (rdT Γ W cx x)) (hb : PSs X b1 (rdS Γ W (exs cx ss))) : PS X (.While c b1 [] pos) (rdS Γ W (ex cx (.whl x ss))) :=
  ⟨fun pins s σ H Z I h => (ps_while (S.po hbl) hc hb).run pins s σ H Z I (whl_of h)⟩
/-! ### o[i] = e -/
def stiF (cx : Cxt) (o i : E) : List D → Rho → Mu → R F
  | [d], ρ, μ => (ev cx o ρ μ).bind fun x μ => (ev cx i ρ μ).bind fun y μ => match setL x y d μ with
    | some μ' => .ok (.nx ρ) μ'
    | none => .stuck
  | _, _, _ => .stuck
def stiF2 (cx : Cxt) (i : E) : List D → Rho → Mu → R F
  | [d, x], ρ, μ => (ev cx i ρ μ).bind fun y μ => match setL x y d μ with
    | some μ' => .ok (.nx ρ) μ'
    | none => .stuck
  | _, _, _ => .stuck
def stiF3 : List D → Rho → Mu → R F
  | [d, x, y], ρ, μ => (match setL x y d μ with
    | some μ' => .ok (.nx ρ) μ'
    | none => .stuck)
  | _, _, _ => .stuck
theorem Rvs.three {w : Wd} {x y z : V} : ∀ {ds : List D}, Rvs Γ w [x, y, z] ds → ∃ a b c, ds = [a, b, c] ∧ Rv Γ w x a ∧ Rv Γ w y b ∧ Rv Γ w z c
  | [a, b, c], h => ⟨a, b, c, rfl, h.1, h.2.1, h.2.2.1⟩
  | [], h => h.elim
  | [_], h => h.2.elim
  | [_, _], h => h.2.2.elim
  | _ :: _ :: _ :: _ :: _, h => h.2.2.2.elim
def notSl : Expr → Bool
  | .Slice _ _ _ _ => false
  | _ => true
theorem asg_sub {o i : Expr} {env : Env} (h : notSl i = true) (v : Value) : assign (.Subscript o i pos') env v = (do
      let ov ← holding [v] (eval o env)
      let iv ← holding [v, ov] (eval i env)
      standAt pos'
      holding [v, ov, iv] (setItem ov iv v)
      release [v, ov, iv] []) := by
  cases i <;> first | rfl | cases h
theorem sw_sub {o i : Expr} {env : Env} {l : Nat} : swapsWithSole [.Subscript o i pos'] a l env = pure false := by cases a <;> rfl
/-- a list's item, a dict's -/
def rSetA : V → V → V → Hp → (Hp → Prop) → Prop := fun o i v H Q => rSetL o i v H Q ∨ ∃ p kvs k, o = .ref p ∧ i = kV k ∧ H p = some (.dK kvs) ∧ kvs.length < sizeLine ∧ Q (upd H p (.dK (putK kvs k v)))
theorem set_any : PSet X rSetA := by
  intro pins s σ H o i v ov iv u Q I ro ri rv h
  rcases h with h | ⟨p, kvs, k, rfl, rfl, hp, hl, q⟩
  · exact set_list pins s σ H o i v ov iv u Q I ro ri rv h
  · obtain rfl : ov = Value.ref p := ro
    obtain ⟨z, hd, vs, rel, dd⟩ := dk_of I.hok hp
    have hz : vs.length ≤ sizeLine := by rw [← rel.length]; exact z
    have hl2 : (putK kvs k v).length ≤ sizeLine := by have := length_putK kvs k v; omega
    refine wpAny_setItem_pairs (hsz := hz) (kV_is ri) dd fun h' dd' hs => ⟨_, ?_, q⟩
    have he : ∃ q, h'.get? p = some q := let ⟨q, _, _, hq, _⟩ := dd'; ⟨q, hq⟩
    exact d_write I (by rw [hp]; exact True.intro) hs he (dk_new hl2 hd (rel.put k rv) dd')
theorem ss_sti {o i : Expr} {ox ix : E} (hns : notSl i = true) (ho : PE X o (rdE Γ W (ev cx ox))) (hi : PE X i (rdE Γ W (ev cx ix))) (ha : PE X a (rdE Γ W (ev cx x))) : PS X (.Assign [.Subscript o i pos'] a pos) (rdS Γ W (ex cx (.sti ox ix x))) := by
  refine ⟨fun pins s σ H Z I h => (ps_asg ha (pg_sub ho hi set_any (asg_sub hns)) sw_sub rfl rfl).run pins s σ H Z I ?_⟩
  have h1 : RDS Γ W [] (fun ds ρ μ => (ev cx x ρ μ).bind fun d μ => stiF cx ox ix (ds ++ [d]) ρ μ) Z σ H := by
    obtain ⟨w, ρ, μ, ds, g, rv, p⟩ := h
    exact ⟨w, ρ, μ, [], g, trivial, p⟩
  refine rdE.mono (RDS.eval (f := stiF cx ox ix) h1) fun v H1 h2 => ?_
  have h3 : RDS Γ W [v] (fun ds ρ μ => (ev cx ox ρ μ).bind fun d μ => stiF2 cx ix (ds ++ [d]) ρ μ) Z σ H1 := by
    obtain ⟨w, ρ, μ, ds, g, rv, p⟩ := h2
    obtain ⟨d, rfl, r⟩ := rv.one
    exact ⟨w, ρ, μ, [d], g, rv, p⟩
  refine rdE.mono (RDS.eval (f := stiF2 cx ix) h3) fun u H2 h4 => ?_
  have h5 : RDS Γ W [v, u] (fun ds ρ μ => (ev cx ix ρ μ).bind fun d μ => stiF3 (ds ++ [d]) ρ μ) Z σ H2 := by
    obtain ⟨w, ρ, μ, ds, g, rv, p⟩ := h4
    obtain ⟨d, e, rfl, r⟩ := rv.two
    exact ⟨w, ρ, μ, [d, e], g, rv, p⟩
  refine rdE.mono (RDS.eval (f := stiF3) h5) fun t H3 h6 => ?_
  obtain ⟨w, ρ, μ, ds, g, rv, p⟩ := h6
  obtain ⟨d, e, f, rfl, r1, r2, r3⟩ := rv.three
  have p' : postS Γ W w Z (match setL e f d μ with
    | some μ' => .ok (.nx ρ) μ'
    | none => .stuck) := p
  unfold setL at p'
  by_cases hd : d.isCell = true
  · rw [if_pos hd] at p'; exact p'.elim
  · rw [if_neg hd] at p'
    have rd := r1.rp (by simpa using hd)
    rcases r2 with ⟨n, ad, rfl, e2, e3⟩ | ⟨ek, _⟩
    · dsimp only at p'
      cases hm : μ[n]? with
      | none => rw [hm] at p'; exact p'.elim
      | some m =>
        rw [hm] at p'
        cases m <;> first | exact p'.elim | skip
        · rename_i xs
          cases f <;> first | exact p'.elim | skip
          rename_i j0
          dsimp only at p'
          cases hj : ixOf xs.length j0 with
          | none => rw [hj] at p'; exact p'.elim
          | some j =>
            rw [hj] at p'
            obtain ⟨⟨vs, q1, q2⟩, _⟩ := g.ok.cel n ad _ e2 hm
            refine .inl ⟨ad, vs, j0, j, e3, r3.int_, q1, by rw [q2.len]; exact hj, ?_⟩
            exact p' w σ _ w.refl ⟨g.st, g.ok.write e2 hm (by simp) ⟨_, upd_same, Rps.set rd j q2⟩⟩
        · rename_i ks xs
          dsimp only at p'
          cases hk : keyOf f with
          | none => rw [hk] at p'; exact p'.elim
          | some kk =>
            rw [hk] at p'
            dsimp only at p'
            by_cases hl : ks.length < LN
            · rw [if_pos hl] at p'
              obtain ⟨⟨kvs, q1, q2, q3⟩, _⟩ := g.ok.cel n ad _ e2 hm
              subst q2
              refine .inr ⟨ad, kvs, kk, e3, r3.key_ hk, q1, by rw [List.length_map] at hl; exact hl, ?_⟩
              exact p' w σ _ w.refl ⟨g.st, g.ok.write e2 hm (by simp) ⟨_, upd_same, dput_K, dput_R q3 rd⟩⟩
            · rw [if_neg hl] at p'; exact p'.elim
    · cases e <;> first | exact p'.elim | cases ek
/-! ### x op= e of ints -/
theorem ss_aug (S : Sx Γ C k X W) {i : Nat} {z : Str} {op : Operator} {o : Op} {f : Int → Int → Int} (hz : C.sto i z = true) (ho : PIp X op (ipI f)) (hf : ∀ a b μ, opD cx o [.int a, .int b] μ = .ok (.int (f a b)) μ) (ha : PE X a (rdE Γ W (ev cx x))) : PS X (.AugAssign (.Name z pos') op a pos) (rdS Γ W (ex cx (.aug i o x))) := by
  obtain ⟨h1, h2, h3⟩ := S.sto hz
  refine ⟨fun pins s σ H Z I h => (ps_aug S.nd h1 h2 ha ho h3).run pins s σ H Z I ?_⟩
  obtain ⟨w, ρ, μ, ds, g, rv, p⟩ := h
  have p' : postS Γ W w Z (match ρ[i]? with
    | some (some (.int x0)) => (ev cx x ρ μ).bind fun y μ => match y with
      | .int y => (opD cx o [.int x0, .int y] μ).bind fun z μ => .ok (.nx (ρ.set i (some z))) μ
      | _ => .stuck
    | _ => .stuck) := p
  split at p'
  · rename_i x0 hx0
    obtain ⟨v, e1, r1⟩ := g.st.at_ i _ hx0
    have ev1 := r1.int_
    subst ev1
    refine ⟨_, e1, w, ρ, μ, [], g, trivial, ?_⟩
    dsimp only
    revert p'
    generalize ev cx x ρ μ = r
    intro p'
    cases r with
    | exc c ns vs μ1 => exact fun w1 H1 dx le ok x => p' w1 σ H1 dx le ok x
    | stuck => exact p'
    | ok y μ1 =>
      intro w1 v1 H1 le ok r2
      rw [R.ok_bind] at p'
      cases y <;> first | exact p'.elim | skip
      rename_i y0
      dsimp only at p'
      rw [hf, R.ok_bind] at p'
      refine ⟨x0, y0, rfl, r2.int_, ?_⟩
      exact p' w1 _ H1 le ⟨(g.st.mono le).set (.val (.int _)), ok⟩
  · exact p'.elim
/-! ### a, b = e, f -/
theorem ss_par2 (S : Sx Γ C k X W) {i j : Nat} {z1 z2 : Str} {e2 : Expr} {px py pt : Pos} {kt k2 : Nat} {pt2 : Pos} (hij : i ≠ j) (h1 : C.vis i z1 = true) (h2 : C.vis j z2 = true) (l1 : C.sc.names.lookup z1 = some .local) (l2 : C.sc.names.lookup z2 = some .local) (ha : PA X [e, e2] (rdA Γ W (evs cx [x, y])))
    (hw : swappedStores [.Tuple [.Name z1 px, .Name z2 py] kt pt] (.Tuple [e, e2] k2 pt2) X.env = pure (some [z1, z2])) : PS X (.Assign [.Tuple [.Name z1 px, .Name z2 py] kt pt] (.Tuple [e, e2] k2 pt2) pos) (rdS Γ W (ex cx (.par [i, j] [x, y]))) := by
  obtain ⟨a1, _, _⟩ := S.vis h1
  obtain ⟨a2, _, _⟩ := S.vis h2
  refine ⟨fun pins s σ H Z I h => (ps_par S.calm S.nd a1 a2 hij (by rw [S.sc]; exact l1) (by rw [S.sc]; exact l2) ha hw).run pins s σ H Z I ?_⟩
  have h1 : RDS Γ W [] (fun ds ρ μ => (evs cx [x, y] ρ μ).bind fun vs μ => (fun vs ρ μ => if vs.length = [i, j].length then .ok (.nx (([i, j].zip vs).foldl (fun ρ p => ρ.set p.1 (some p.2)) ρ)) μ else .stuck) (ds ++ vs) ρ μ) Z σ H := by
    obtain ⟨w, ρ, μ, ds, g, rv, p⟩ := h
    exact ⟨w, ρ, μ, [], g, trivial, p⟩
  refine rdA.mono (RDS.evals (f := fun vs ρ μ => if vs.length = [i, j].length then .ok (.nx (([i, j].zip vs).foldl (fun ρ p => ρ.set p.1 (some p.2)) ρ)) μ else .stuck) h1) fun us H1 h2 => ?_
  obtain ⟨w, ρ, μ, ds, g, rv, p⟩ := h2
  dsimp only at p
  split at p
  · rename_i hl
    match ds, hl with
    | [d, d2], _ =>
      obtain ⟨v, u, e1, r1, r2⟩ := rvs_two rv
      exact ⟨v, u, e1, p w _ H1 w.refl ⟨(g.st.set r1).set r2, g.ok⟩⟩
  · exact p.elim
end
end KP
end

section
set_option maxRecDepth 100000
set_option maxHeartbeats 4000000
/-! KP14: errors of the program are raised. -/
namespace KP
open PySem PySem.Spec PyProof.Rows L2
/-- self.f = p, .. : no more -/
def storesOf (me : Str) : List Stmt → Option (List (Str × Str))
  | [] => some []
  | .Assign [.Attribute (.Name s _) f _] (.Name p _) _ :: r => if s = me then (storesOf me r).map ((f, p) :: ·) else none
  | _ => none
def parOf : Arguments → Option (List Str)
  | ⟨[], as, none, [], _, none, []⟩ => some (as.map (·.arg))
  | _ => none
def initOk (nm : Nat → Str) (flds : List Nat) (params : Arguments) (scope : Scope) (body : List Stmt) : Bool := match parOf params with
  | some (me :: ps) => C8.scC (me :: ps) (me :: ps) scope && (decide (storesOf me body = some ((flds.map nm).zip ps)) && (decide (flds.length = ps.length) && (decide (flds.length = 1 ∨ flds.length = 2) && ((me :: ps).all fun x => decide (scope.names.lookup x = some .local) && !(x == ("__debug__" : Str)) && !(x == ("__classdict__" : Str))))))
  | _ => false
/-- an error class of the program -/
structure ErrOk (Γ : Glob) (c : Nat) (i : ClsI) : Prop where
  oex : OexC Γ.K (Γ.cls c)
  ini : ∃ (fI : Addr) (x qual : Str) (params : Arguments) (body : List Stmt) (scope : Scope) (fd : FuncData), PySem.W.findIn Γ.K (.ref (Γ.cls c)) "__init__" = some (some (.ref fI)) ∧ PySem.W.typeIn Γ.K (.ref fI) = some (.type "function") ∧
    FunD Γ.K x qual params body scope [] [] fI fd ∧ initOk Γ.nm i.flds params scope body = true
  nof : ∀ f ∈ i.flds, PySem.W.findIn Γ.K (.ref (Γ.cls c)) (Γ.nm f) = some none
section
variable {Γ : Glob} {X : Cx} {W : WX} {cx : Cxt} {C : Cv} {k : Nat}
/-- what such an __init__ promises -/
def spErr (C : Addr) (fs : List Str) : Sp := fun vs H Q _ => ∃ a ys, vs = .ref a :: ys ∧ ys.length = fs.length ∧ H a = some (exo a C none) ∧ ∀ dx, H dx = none → dx ≠ a → ∀ H', (∀ b, b ≠ a → b ≠ dx → H' b = H b) → H' a = some (exo a C (some dx)) → H' dx = some (exd dx (fs.zip ys).reverse) → Q .non H'
theorem FdN.of {K : PySem.W.Frag} {x qual : Str} {params : Arguments} {body : List Stmt} {scope : Scope} {f : Addr} {fd : FuncData} {ps : List Str} (F : FunD K x qual params body scope [] [] f fd) (hp : parOf params = some ps) : FdN fd ps := by
  obtain ⟨oc, od, dV, kV, doc, pm, an, cdv, ct, osl, rfl, lk, hcd, hd, _⟩ := F.ex
  have hdV : dV = .none := by
    rcases hd with ⟨_, h⟩ | ⟨h, _⟩
    · exact h
    · exact absurd rfl h
  subst hdV
  unfold parOf at hp
  split at hp
  · cases hp
    exact ⟨_, _, _, _, _, _, _, _, _, _, _, _, rfl, rfl⟩
  · cases hp
theorem binds_pos {K : PySem.W.Frag} {fd : FuncData} {ps : List Str} (h : FdN fd ps) (hn : ps.Nodup) : Binds K fd ps [] := by
  refine Binds.all fun us hl => ?_
  obtain ⟨name, qual, args, kd, body, scope, kV, doc, pmv, cdv, ct, an, rfl, ha⟩ := h
  have e : ∀ x ∈ ps, (ps.zip us).lookup x = us[ps.idxOf x]? := fun x hx => by rw [lookup_idx x _ _ hl.symm, if_pos hx]
  refine bind_kw name qual args kd body scope kV doc pmv cdv ct an us [] ps us ha (by omega) (by simp) (by simp) (fun x hx => ?_) ?_
  · rw [List.append_nil, e x hx, List.getElem?_eq_getElem (by rw [hl]; exact List.idxOf_lt_length_iff.mpr hx)]; rfl
  · rw [List.append_nil]
    refine filter_zip (fun n => (ps.zip us).lookup n) ps us ?_
    clear ha
    have key : ∀ (q : List Str) (v : List Value), q.Nodup → q.length = v.length → q.mapM (fun n => (q.zip v).lookup n) = some v := by
      intro q
      induction q with
      | nil => intro v _ hv; cases v <;> simp_all
      | cons a q ih =>
        intro v hq hv
        cases v with
        | nil => simp at hv
        | cons b v =>
          rw [List.nodup_cons] at hq
          rw [List.mapM_cons]
          have h1 : (List.zip (a :: q) (b :: v)).lookup a = some b := by simp
          rw [h1]
          have h2 : q.mapM (fun n => (List.zip (a :: q) (b :: v)).lookup n) = q.mapM (fun n => (q.zip v).lookup n) := by
            have : ∀ r : List Str, (∀ x ∈ r, x ≠ a) → r.mapM (fun n => (List.zip (a :: q) (b :: v)).lookup n) = r.mapM (fun n => (q.zip v).lookup n) := by
              intro r
              induction r with
              | nil => intro _; rfl
              | cons c r ihr =>
                intro hr
                rw [List.mapM_cons, List.mapM_cons, ihr fun x hx => hr x (List.mem_cons_of_mem _ hx)]
                have hc : (c == a) = false := by simpa using hr c List.mem_cons_self
                rw [List.zip_cons_cons, List.lookup_cons, hc]
            exact this q fun x hx e => hq.1 (e ▸ hx)
          rw [h2, ih v hq.2 (by simpa using hv)]
          rfl
    exact key ps us hn hl.symm
theorem err_len {D0 : Addr} {fs ps : List Str} {me : Str} (h : fs.length = ps.length) : ∀ vs H Q E, spErr D0 fs vs H Q E → vs.length = (me :: ps).length := fun vs H Q E ⟨a, ys, e, hl, _⟩ => by
  rw [e, List.length_cons, List.length_cons, hl, h]
/-- an __init__ that keeps its parts -/
theorem init_F {P : Program} {w : World} {mg : Str → Option Value} {base : Heap} {c : Nat} {i : ClsI} (O : OexC Γ.K (Γ.cls c)) (hno : ∀ f ∈ i.flds, PySem.W.findIn Γ.K (.ref (Γ.cls c)) (Γ.nm f) = some none) {x qual : Str} {params : Arguments} {body : List Stmt} {scope : Scope} {fI : Addr} {fd : FuncData}
    (F : FunD Γ.K x qual params body scope [] [] fI fd) (h : initOk Γ.nm i.flds params scope body = true) : ∃ ps, FdN fd ps ∧ ps.Nodup ∧ (i.flds.length + 1 = ps.length ∧ i.flds.length ≤ 2) ∧ FnOk P w Γ.K mg base C8.CX0 1 fI fd ps (spErr (Γ.cls c) (i.flds.map Γ.nm)) := by
  unfold initOk at h
  split at h
  · rename_i me ps hp
    simp only [Bool.and_eq_true, decide_eq_true_eq] at h
    obtain ⟨hs, hb, hl, hf, hn⟩ := h
    have S := C8.fnScope_by hs
    have hfd := FdN.of F hp
    have hn' : ∀ y ∈ me :: ps, scope.names.lookup y = some .local ∧ (y == ("__debug__" : Str)) = false ∧ (y == ("__classdict__" : Str)) = false := fun y hy => by
      have := List.all_eq_true.mp hn y hy
      simpa [and_assoc] using this
    refine ⟨me :: ps, hfd, S.nd, ⟨by rw [List.length_cons, hl], by omega⟩, F.ok S (err_len (by rw [List.length_map, hl])) fun cdv A outer s H vs Q E hr hsp => ?_⟩
    obtain ⟨a, ys, rfl, hy, ha, q⟩ := hsp
    rw [List.length_map] at hy
    generalize hX : cxOf C8.CX0 P w Γ.K mg base (me :: ps) qual scope fI cdv A outer s H E = X
    have hXK : X.K = Γ.K := by rw [← hX]; rfl
    have hXN : X.N = me :: ps := by rw [← hX]; rfl
    have hXs : X.env.scope = scope := by rw [← hX]; rfl
    have var : ∀ (j : Nat) (y : Str) (pos : Pos), (me :: ps)[j]? = some y → PE X (.Name y pos) (fun σ H Q => ∃ v, σ[j]? = some (some v) ∧ Q v H) := fun j y pos e => by
      obtain ⟨n1, n2, n3⟩ := hn' y (List.mem_of_getElem? e)
      exact pe_var (by rw [hXN]; exact e) (.inl (by rw [hXs]; exact n1)) n2 n3
    rcases hf with hf | hf
    · obtain ⟨f1, ef⟩ : ∃ f1, i.flds = [f1] := by
        match hi : i.flds, hf with
        | [f1], _ => exact ⟨f1, rfl⟩
      rw [ef] at hl hb hy q hno
      obtain ⟨p1, rfl⟩ : ∃ p1, ps = [p1] := by
        match ps, hl with
        | [p1], _ => exact ⟨p1, rfl⟩
      obtain ⟨y1, rfl⟩ : ∃ y1, ys = [y1] := by
        match ys, hy with
        | [y1], _ => exact ⟨y1, rfl⟩
      obtain ⟨q1, q2, q3, eb⟩ : ∃ q1 q2 q3 q4, body = [.Assign [.Attribute (.Name me q1) (Γ.nm f1) q2] (.Name p1 q3) q4] := by
        unfold storesOf at hb
        split at hb
        · cases hb
        · rename_i s0 _ f0 _ p0 _ _ r
          split at hb
          · rename_i es
            obtain ⟨l, h1, h2⟩ := Option.map_eq_some_iff.mp hb
            subst es
            cases h2
            unfold storesOf at h1
            split at h1
            · exact ⟨_, _, _, _, rfl⟩
            · split at h1
              · obtain ⟨_, _, h3⟩ := Option.map_eq_some_iff.mp h1
                cases h3
              · cases h1
            · cases h1
          · cases hb
        · cases hb
      obtain ⟨q4, eb⟩ := eb
      subst eb
      refine ⟨_, pss_one (ps_ost (var 0 me q1 rfl) (var 1 p1 q3 rfl)), ?_⟩
      refine ⟨y1, rfl, .ref a, rfl, a, Γ.cls c, rfl, by rw [hXK]; exact O, by rw [hXK]; exact hno f1 (by simp), .inl ⟨ha, fun dx n1 n2 => ?_⟩⟩
      refine q dx n1 n2 _ (fun b b1 b2 => by rw [upd_ne b1, upd_ne b2]) upd_same ?_
      rw [upd_ne n2, upd_same]
      rfl
    · obtain ⟨f1, f2, ef⟩ : ∃ f1 f2, i.flds = [f1, f2] := by
        match hi : i.flds, hf with
        | [f1, f2], _ => exact ⟨f1, f2, rfl⟩
      rw [ef] at hl hb hy q hno
      obtain ⟨p1, p2, rfl⟩ : ∃ p1 p2, ps = [p1, p2] := by
        match ps, hl with
        | [p1, p2], _ => exact ⟨p1, p2, rfl⟩
      obtain ⟨y1, y2, rfl⟩ : ∃ y1 y2, ys = [y1, y2] := by
        match ys, hy with
        | [y1, y2], _ => exact ⟨y1, y2, rfl⟩
      have st1 : ∀ {b : List Stmt} {f p : Str} {l : List (Str × Str)}, storesOf me b = some ((f, p) :: l) → ∃ q1 q2 q3 q4 r, b = .Assign [.Attribute (.Name me q1) f q2] (.Name p q3) q4 :: r ∧ storesOf me r = some l := by
        intro b f p l hb
        unfold storesOf at hb
        split at hb
        · cases hb
        · split at hb
          · rename_i es
            obtain ⟨l', h1, h2⟩ := Option.map_eq_some_iff.mp hb
            subst es
            cases h2
            exact ⟨_, _, _, _, _, rfl, h1⟩
          · cases hb
        · cases hb
      have st0 : ∀ {b : List Stmt}, storesOf me b = some [] → b = [] := by
        intro b hb
        unfold storesOf at hb
        split at hb
        · rfl
        · split at hb
          · obtain ⟨_, _, h3⟩ := Option.map_eq_some_iff.mp hb
            cases h3
          · cases hb
        · cases hb
      obtain ⟨q1, q2, q3, q4, r, e1, h1⟩ := st1 hb
      obtain ⟨r1, r2, r3, r4, r', e2, h2⟩ := st1 h1
      have e3 := st0 h2
      subst e3 e2 e1
      refine ⟨_, pss_cons (ps_ost (var 0 me q1 rfl) (var 1 p1 q3 rfl)) (pss_one (ps_ost (var 0 me r1 rfl) (var 2 p2 r3 rfl))), ?_⟩
      refine ⟨y1, rfl, .ref a, rfl, a, Γ.cls c, rfl, by rw [hXK]; exact O, by rw [hXK]; exact hno f1 (by simp), .inl ⟨ha, fun dx n1 n2 => ?_⟩⟩
      refine ⟨y2, rfl, .ref a, rfl, a, Γ.cls c, rfl, by rw [hXK]; exact O, by rw [hXK]; exact hno f2 (by simp), .inr ⟨dx, [(Γ.nm f1, y1)], upd_same, by rw [upd_ne n2, upd_same], by simp, ?_⟩⟩
      refine q dx n1 n2 _ (fun b b1 b2 => by rw [upd_ne b2, upd_ne b1, upd_ne b2]) (by rw [upd_ne (Ne.symm n2), upd_same]) upd_same
  · cases h
theorem ss_rai (S : Sx Γ C k X W) (hbl : C.bl = false) (hk1 : 2 ≤ k) {c : Nat} {i : ClsI} (hc : cx.T.cl c = some i) (O : ErrOk Γ c i) {z : Str} {p pos pos' : Pos} {e : Expr} {es : List Expr} {xs : List E} (hz : C.glo z = some (.cls c)) (hes : (e :: es).all notSt = true) (ha : PA X (e :: es) (rdA Γ W (evs cx xs))) :
    PS X (.Raise (some (.Call (.Name z p) (e :: es) [] pos)) none pos') (rdS Γ W (ex cx (.rai c xs))) := by
  obtain ⟨g1, g2, g3, _⟩ := S.glo hz
  obtain ⟨fI, x, qual, params, body, scope, fd, iC, tI, F, hin⟩ := O.ini
  obtain ⟨ps, hfd, hnd, ⟨hlen, hl2⟩, FO⟩ := init_F (P := X.prog) (w := X.w) (mg := X.mg) (base := X.base) O.oex O.nof F hin
  have hb := binds_pos (K := X.K) hfd hnd
  rw [S.hK] at FO iC tI
  have hO := O.oex
  rw [S.hK] at hO
  rw [List.all_cons, Bool.and_eq_true] at hes
  refine ⟨fun pins s σ H Z I h => (ps_raise S.calm (S.tk hbl) (pmk_oex hO iC tI FO (S.room.mono hk1) hb .nil C8.pass0 g1 g2 ha g3 (se_plain hes.1) (bt_plain hes.2))).run pins s σ H Z I ?_⟩
  have h1 : RDS Γ W [] (fun ds ρ μ => (evs cx xs ρ μ).bind fun vs μ => (fun ds (_ : Rho) μ => raiD cx c ds μ) (ds ++ vs) ρ μ) Z σ H := by
    obtain ⟨w, ρ, μ, ds, g, rv, p⟩ := h
    exact ⟨w, ρ, μ, [], g, trivial, p⟩
  refine rdA.mono (RDS.evals (f := fun ds (_ : Rho) μ => raiD cx c ds μ) h1) fun us H1 h2 => ?_
  obtain ⟨w, ρ, μ, ds, g, rv, p⟩ := h2
  dsimp only at p
  unfold raiD at p
  rw [hc] at p
  dsimp only at p
  split at p
  · rename_i hk
    obtain ⟨_, hl, hcl⟩ := hk
    have hR := Rps.of (Φ := w.Φ) (θ := w.θ) (ps := w.pr) (show Rvs Γ w us ds from rv) hcl
    have hul : us.length = i.flds.length := by rw [hR.len, hl]
    refine ⟨by rw [hul]; omega, fun a ha1 => ⟨a, us, by simp, by rw [List.length_map, hul], upd_same, fun dx n1 n2 H' k1 k2 k3 => ⟨rfl, dx, _, k2, k3, ?_, ?_⟩⟩⟩
    · rw [upd_ne n2] at n1; exact n1
    · have n1' : H1 dx = none := by rw [upd_ne n2] at n1; exact n1
      have eH : upd (del H' a) dx (.xd ((i.flds.map Γ.nm).zip us).reverse) = upd H1 dx (.xd ((i.flds.map Γ.nm).zip us).reverse) := by
        funext b
        by_cases hb1 : b = dx
        · subst hb1; rw [upd_same, upd_same]
        · rw [upd_ne hb1, upd_ne hb1]
          by_cases hb2 : b = a
          · subst hb2; rw [del_same, ha1]
          · rw [del_ne hb2, k1 b hb2 hb1, upd_ne hb2]
      rw [eH]
      refine p (w.add dx (.xd ((i.flds.map Γ.nm).zip us).reverse)) σ _ dx (Wd.add_le (g.ok.fresh n1')) (g.ok.add n1') ⟨_, upd_same, ?_, ?_⟩
      · rw [List.map_reverse, List.map_fst_zip (by rw [List.length_map, hul]; exact Nat.le_refl _), List.map_reverse]
      · rw [List.map_reverse, List.map_snd_zip (by rw [List.length_map, hul]; exact Nat.le_refl _)]
        have hrev : ∀ {vs : List V} {xs : List D} {Φ : Hp}, Rps Γ Φ vs xs → Rps Γ Φ vs.reverse xs.reverse := by
          intro vs xs Φ r
          induction vs generalizing xs with
          | nil => cases r; exact .nil
          | cons v vs ih =>
            cases r with
            | cons a b => rw [List.reverse_cons, List.reverse_cons]; exact (ih b).app (.cons a .nil)
        exact hrev (Rps.mono (Wd.add_le (g.ok.fresh n1')).1 _ _ hR)
  · exact p.elim
end
end KP
end

section
set_option maxRecDepth 100000
set_option maxHeartbeats 4000000
/-! KP15: isinstance; truth; calls of what is built in. -/
namespace KP
open PySem PySem.Spec PyProof.Rows L2
def tyVal (Γ : Glob) : Ty → Value
  | .int => .type "int" | .bool => .type "bool" | .str => .type "str" | .list => .type "list" | .tuple => .type "tuple" | .dict => .type "dict"
  | .cls c => .ref (Γ.cls c)
def tyVv (Γ : Glob) : Ty → V
  | .int => .ty "int" | .bool => .ty "bool" | .str => .ty "str" | .list => .ty "list" | .tuple => .ty "tuple" | .dict => .ty "dict"
  | .cls c => .ref (Γ.cls c)
theorem tyV_cls (Γ : Glob) (t : Ty) : ClsV (tyVv Γ t) (tyVal Γ t) := by cases t <;> first | exact .ty _ | exact .own _
def baseNames : List String := ["NoneType", "bool", "int", "str", "list", "tuple", "dict"]
structure COk (Γ : Glob) (T : Tab) (c : Nat) : Prop where
  cls : Cls Γ.K (Γ.cls c)
  ha : PySem.W.findIn Γ.K (.ref (Γ.cls c)) "__class__" = some (some (.builtin "object.__class__"))
  hn : PySem.W.specialIn Γ.K (.builtin "object.__class__") "__get__" = some (some (.builtin "getset_descriptor.__get__"))
  ht : PySem.W.takesIn Γ.K (.builtin "object.__class__") = some true
  hm : PySem.W.mroIn Γ.K (Γ.cls c) (.type "object") = some true
  isa : ∀ t b, tyC ⟨T, fun _ _ _ => .stuck, fun _ _ _ => .stuck, fun _ _ _ => .stuck⟩ c t = some b → PySem.W.kitOne Γ.K (.ref (Γ.cls c)) (tyVal Γ t) = some b
/-- an error's class: what isinstance and a part of the error ask of it -/
structure ExcK (K : PySem.W.Frag) (D : Addr) : Prop where
  cl : (PySem.W.clsIn K D).isSome = true
  ga : PySem.W.findIn K (.ref D) "__getattribute__" = some (some (.builtin "BaseException.__getattribute__"))
  gt : PySem.W.findIn K (.ref D) "__getattr__" = some none
  su : PySem.W.subIn K (.ref D) (.type "BaseException") = some true
  hd : PySem.W.hasDictIn K D = true
  ha : PySem.W.findIn K (.ref D) "__class__" = some (some (.builtin "object.__class__"))
  hn : PySem.W.specialIn K (.builtin "object.__class__") "__get__" = some (some (.builtin "getset_descriptor.__get__"))
  ht : PySem.W.takesIn K (.builtin "object.__class__") = some true
  hm : PySem.W.mroIn K D (.type "object") = some true
/-- the parts of a class's things -/
structure FdK (Γ : Glob) (c : Nat) (i : ClsI) : Prop where
  nof : ∀ f ∈ i.flds, PySem.W.findIn Γ.K (.ref (Γ.cls c)) (Γ.nm f) = some none
  inj : ∀ f ∈ i.flds, ∀ n, Γ.nm n = Γ.nm f → n = f
structure ExK (Γ : Glob) (T : Tab) (c : Nat) (i : ClsI) : Prop where
  k : ExcK Γ.K (Γ.cls c)
  two : ∀ t j, T.cl t = some j → ¬ j.kind < 2 → PySem.W.kitOne Γ.K (.ref (Γ.cls c)) (.ref (Γ.cls t)) = some (decide (t ∈ i.mro)) ∧ PySem.W.exmOne Γ.K (.ref (Γ.cls c)) (.ref (Γ.cls t)) = some (decide (t ∈ i.mro))
structure ClOk (Γ : Glob) (T : Tab) : Prop where
  base : ∀ c i, T.cl c = some i → ∀ n ∈ baseNames, PySem.W.kitOne Γ.K (.type n) (.ref (Γ.cls c)) = some false
  obj : ∀ c i, T.cl c = some i → i.kind < 2 → COk Γ T c
  err : ∀ c i, T.cl c = some i → i.kind = 2 → ErrOk Γ c i
  exk : ∀ c i, T.cl c = some i → i.kind = 2 → ExK Γ T c i
  fdk : ∀ c i, T.cl c = some i → i.kind ≤ 2 → FdK Γ c i
/-! a value's type, errors too -/
inductive TyK (K : PySem.W.Frag) (H : Hp) : V → Value → Prop where
  | old {v : V} {t : Value} (h : TyX K H v t) : TyK K H v t
  | exc {a D dx : Addr} {fs : List (Str × V)} (h : H a = some (exO a D dx)) (hx : H dx = some (.xd fs)) (c : ExcK K D) : TyK K H (.ref a) (.ref D)
section
variable {X : Cx} {pins : List (Addr × Obj)} {σ : St} {H : Hp} {s : Shared}
/-- the object of an error -/
theorem exc_at (I : Inv X pins σ H s) {a D dx : Addr} {fs : List (Str × V)} (h : H a = some (exO a D dx)) (hx : H dx = some (.xd fs)) :
    ∃ ox od, PySem.W.InstAt s.heap a ox D (some od) ∧ ∀ f v, fs.lookup f = some v → ∃ u, RelV v u ∧ PySem.W.lookIn f od = some (some u) := by
  obtain ⟨⟨o, h1, h2, h3, vs, h4⟩, _, _⟩ := I.hok a _ h
  have hd : ObjOk X.prog X.w H s.heap dx (.xd fs) := I.hok dx _ hx
  obtain ⟨mA, hns, hr⟩ := hd
  obtain ⟨od, ho, hl⟩ := lookIn_ns hns
  refine ⟨o, od, ⟨h1, h2, by unfold PySem.W.notCls; rw [h4] <;> rfl, by rw [h3]; exact ho⟩, fun f v e => ?_⟩
  obtain ⟨u, hu, ru⟩ := RelO.some_of (v := v) (o := mA f) (by rw [← e]; exact hr f)
  exact ⟨u, ru, by rw [hl, hu]⟩
theorem kitK (I : Inv X pins σ H s) {v : V} {u t : Value} (rv : RelV v u) (ty : TyK X.K H v t) : ∃ P : Heap → Prop, PySem.W.KitX X.K u t P ∧ P s.heap ∧ u ≠ .builtin "__main__.__loader__#opaque" := by
  cases ty with
  | old h => exact kit_of I rv h
  | exc h hx c =>
    cases rv
    obtain ⟨ox, od, J, _⟩ := exc_at I h hx
    exact ⟨_, PySem.W.kitx_exc c.cl c.ga c.gt c.su c.ha c.hn c.ht c.hm, J, fun z => by cases z⟩
/-- isinstance(v, c) -/
def rKi (K : PySem.W.Frag) : List V → Hp → VK → Prop := fun vs H Q => ∃ (v k : V) (tv kv : Value) (ans : Bool), vs = [v, k] ∧ ClsV k kv ∧ TyK K H v tv ∧ PySem.W.kitOne K tv kv = some ans ∧ Q (.bl ans) H
def rKt (K : PySem.W.Frag) : List V → Hp → VK → Prop := fun vs H Q => ∃ (v : V) (q : Addr) (ks : List V) (tv : Value) (kvs : List Value) (ans : Bool), vs = [v, .ref q] ∧ H q = some (.tup ks) ∧ Paired ClsV ks kvs ∧ TyK K H v tv ∧ PySem.W.kitAny K tv kvs = some ans ∧ Q (.bl ans) H
theorem call_ki : CallR X (.builtin "isinstance") (rKi X.K) := fun pins s σ H vs us Q I r h => by
  obtain ⟨v, k, tv, kv, ans, rfl, ck, ty, e, q⟩ := h
  obtain ⟨u1, u2, rfl, r1, r2⟩ := vals2 r
  cases ck.eq r2
  obtain ⟨P, Z, hp, hl⟩ := kitK I r1 ty
  exact PySem.W.kia_one Z I.kIn hp e hl fun tk => ⟨.bl ans, H, I.tok tk, rfl, q⟩
theorem call_kt : CallR X (.builtin "isinstance") (rKt X.K) := fun pins s σ H vs us Q I r h => by
  obtain ⟨v, q, ks, tv, kvs, ans, rfl, hq, ck, ty, e, z⟩ := h
  obtain ⟨u1, u2, rfl, r1, r2⟩ := vals2 r
  cases r2
  obtain ⟨P, Z, hp, hl⟩ := kitK I r1 ty
  have hT : ObjOk X.prog X.w H s.heap q (.tup ks) := I.hok q _ hq
  obtain ⟨_, its, rv, ⟨oc, odi, odt, osl⟩, g1, g2, n, g3⟩ := hT
  cases ClsV.all ck rv
  dsimp only at g2 g3
  subst g2 g3
  exact PySem.W.kia_tup Z I.kIn hp g1 e hl fun tk => ⟨.bl ans, H, I.tok tk, rfl, z⟩
end
section
variable {Γ : Glob} {X : Cx} {W : WX} {cx : Cxt} {C : Cv} {k : Nat} {w : Wd} {H : Hp} {μ : Mu} {σ0 : St}
theorem kit_base (Q : ClOk Γ cx.T) {a t : Ty} {n : String} (hn : n ∈ baseNames) {b : Bool} (ha : tyVal Γ a = .type n) (h : tyB cx a t = some b) (hnb : a = .bool → t ≠ .int := by intro e; cases e) : PySem.W.kitOne Γ.K (.type n) (tyVal Γ t) = some b := by
  cases t with
  | cls c =>
    have h' : (cx.T.cl c).map (fun _ => false) = some b := h
    obtain ⟨i, h1, h2⟩ := Option.map_eq_some_iff.mp h'
    subst h2
    exact Q.base c i h1 n hn
  | _ =>
    cases a <;> first
      | (exact absurd rfl (hnb rfl))
      | (cases ha; cases h; exact kit_ty (by decide +kernel))
      | (cases ha)
theorem kit_obj (Q : ClOk Γ cx.T) {a dx : Addr} {fs : List (Str × V)} {c : Nat} {t : Ty} {b : Bool} (e : H a = some (.ins (Γ.cls c) dx fs)) (h : tyC cx c t = some b) : TyX Γ.K H (.ref a) (.ref (Γ.cls c)) ∧ PySem.W.kitOne Γ.K (.ref (Γ.cls c)) (tyVal Γ t) = some b := by
  have hc : ∃ i, cx.T.cl c = some i ∧ i.kind < 2 := by
    unfold tyC at h
    split at h
    · rename_i i k hi
      split at h
      · exact ⟨i, hi, by assumption⟩
      · cases h
    · rename_i i hi _
      split at h
      · exact ⟨i, hi, by assumption⟩
      · cases h
    · cases h
  obtain ⟨i, hi, hk⟩ := hc
  have O := Q.obj c i hi hk
  exact ⟨.base (.ins e O.cls O.ha O.hn O.ht O.hm), O.isa t b h⟩
theorem ty_exn (Q : ClOk Γ cx.T) {a dx : Addr} {fs : List (Str × V)} {c : Nat} {t : Ty} {b : Bool} (e : H a = some (exO a (Γ.cls c) dx)) (ex : H dx = some (.xd fs)) (h : tyX cx c t = some b) : ∃ tv, TyK Γ.K H (.ref a) tv ∧ ∀ t' b', tyX cx c t' = some b' → PySem.W.kitOne Γ.K tv (tyVal Γ t') = some b' := by
  have go : ∀ t b, tyX cx c t = some b → ∃ i k j, cx.T.cl c = some i ∧ i.kind = 2 ∧ t = .cls k ∧ cx.T.cl k = some j ∧ ¬ j.kind < 2 ∧ b = decide (k ∈ i.mro) := by
    intro t b h
    unfold tyX at h
    split at h
    · rename_i i k hi
      split at h
      · obtain ⟨j, h1, h2⟩ := Option.bind_eq_some_iff.mp h
        split at h2
        · cases h2
        · cases h2
          exact ⟨i, k, j, hi, by assumption, rfl, h1, by assumption, rfl⟩
      · cases h
    · cases h
  obtain ⟨i, k, j, h1, h2, rfl, h3, h4, rfl⟩ := go t b h
  have O := Q.exk c i h1 h2
  refine ⟨_, .exc e ex O.k, fun t' b' h' => ?_⟩
  obtain ⟨i', k', j', g1, g2, rfl, g3, g4, rfl⟩ := go t' b' h'
  rw [h1] at g1
  cases g1
  exact (O.two k' j' g3 g4).1
/-- a value's type, and what isinstance answers -/
theorem ty_of (Q : ClOk Γ cx.T) (ok : OkW Γ w μ H) {v : V} {d : D} (r : Rv Γ w v d) {t : Ty} {b : Bool} (h : tyIs cx μ d t = some b) : ∃ tv, TyK Γ.K H v tv ∧ PySem.W.kitOne Γ.K tv (tyVal Γ t) = some b ∧ (∀ t' b', tyIs cx μ d t' = some b' → PySem.W.kitOne Γ.K tv (tyVal Γ t') = some b') := by
  suffices hs : ∃ tv, TyK Γ.K H v tv ∧ ∀ t' b', tyIs cx μ d t' = some b' → PySem.W.kitOne Γ.K tv (tyVal Γ t') = some b' from let ⟨tv, h1, h2⟩ := hs; ⟨tv, h1, h2 t b h, h2⟩
  have bm : ∀ n, n ∈ baseNames → n ∈ baseNames := fun _ h => h
  rcases r with ⟨n, a, rfl, e2, rfl⟩ | ⟨_, r⟩
  · cases hm : μ[n]? with
    | none => simp only [tyIs, hm] at h; cases h
    | some m =>
      obtain ⟨q, _⟩ := ok.cel n a m e2 hm
      cases m with
      | lst xs =>
        obtain ⟨vs, q1, _⟩ := q
        refine ⟨.type "list", .old (.base (.lst q1)), fun t' b' h' => ?_⟩
        simp only [tyIs, hm] at h'
        exact kit_base (a := .list) Q (by decide) rfl h'
      | dct ks xs =>
        obtain ⟨kvs, q1, _⟩ := q
        refine ⟨.type "dict", .old (.base (.dK q1)), fun t' b' h' => ?_⟩
        simp only [tyIs, hm] at h'
        exact kit_base (a := .dict) Q (by decide) rfl h'
      | ins c ns xs =>
        obtain ⟨dx, fs, q1, _⟩ := q
        simp only [tyIs, hm] at h
        refine ⟨_, .old (kit_obj Q q1 h).1, fun t' b' h' => ?_⟩
        simp only [tyIs, hm] at h'
        exact (kit_obj Q q1 h').2
      | lsc xs => simp only [tyIs, hm] at h; cases h
      | dead => simp only [tyIs, hm] at h; cases h
  · cases r with
    | non =>
      refine ⟨.type "NoneType", .old (.base .non), fun t' b' h' => ?_⟩
      cases t' with
      | cls c =>
        have h2 : (cx.T.cl c).map (fun _ => false) = some b' := h'
        obtain ⟨i, g1, g2⟩ := Option.map_eq_some_iff.mp h2
        subst g2
        exact Q.base c i g1 _ (by decide)
      | _ => cases h'; exact kit_ty (by decide +kernel)
    | bl x =>
      refine ⟨.type "bool", .old (.base (.bl x)), fun t' b' h' => ?_⟩
      cases t' with
      | int => cases h'; exact kit_ty (by decide +kernel)
      | _ => exact kit_base (a := .bool) Q (by decide) rfl h' (by intro _ e; cases e)
    | int x => exact ⟨.type "int", .old (.base (.int x)), fun t' b' h' => kit_base (a := .int) Q (by decide) rfl h'⟩
    | str x => exact ⟨.type "str", .old (.base (.str x)), fun t' b' h' => kit_base (a := .str) Q (by decide) rfl h'⟩
    | lst a b c => exact ⟨.type "list", .old (.base (.lst (ok.frz _ _ a))), fun t' b' h' => kit_base (a := .list) Q (by decide) rfl h'⟩
    | tup a b c _ =>
      refine ⟨.type "tuple", ?_, fun t' b' h' => kit_base (a := .tuple) Q (by decide) rfl h'⟩
      rcases a with (a | ⟨o, a⟩) | ⟨o, its, n, a1, a2, _⟩
      · exact .old (.base (.tup (ok.frz _ _ a)))
      · exact .old (.fTuple (ok.frz _ _ a))
      · exact .old (.kTuple a1 a2)
    | dct a b => exact ⟨.type "dict", .old (.base (.dK (ok.frz _ _ a))), fun t' b' h' => kit_base (a := .dict) Q (by decide) rfl h'⟩
    | obj a b c => exact ⟨_, .old (kit_obj Q (ok.frz _ _ a) h).1, fun t' b' h' => (kit_obj Q (ok.frz _ _ a) h').2⟩
    | exn e1 e2 _ _ => exact ty_exn Q (ok.frz _ _ e1) (ok.frz _ _ e2) h
    | fn f => cases h
    | scr a => cases h
/-! ### names of types -/
def tyNames : List (Str × Ty × String) := [("int", .int, "int"), ("bool", .bool, "bool"), ("str", .str, "str"), ("list", .list, "list"), ("tuple", .tuple, "tuple"), ("dict", .dict, "dict")]
def tyNm (C : Cv) (x : Str) : Option Ty := match C.glo x with
  | some (.cls c) => some (.cls c)
  | some .free => tyNames.lookup x |>.map (·.1)
  | _ => none
theorem tyNames_ok : ∀ p ∈ tyNames, bootBuiltins p.1 = some (.type p.2.2) ∧ p.1 ≠ "__name__" ∧ ∀ Γ, tyVal Γ p.2.1 = .type p.2.2 ∧ tyVv Γ p.2.1 = .ty p.2.2 := by
  intro p hp
  simp only [tyNames, List.mem_cons, List.not_mem_nil, or_false] at hp
  rcases hp with rfl | rfl | rfl | rfl | rfl | rfl <;> exact ⟨by decide +kernel, by decide +kernel, fun _ => ⟨rfl, rfl⟩⟩
theorem pe_tyn (S : Sx Γ C k X W) {x : Str} {t : Ty} {pos : Pos} (h : tyNm C x = some t) : PE X (.Name x pos) (tC (tyVv Γ t)) := by
  unfold tyNm at h
  split at h
  · rename_i c hc
    cases h
    obtain ⟨g1, g2, g3, _⟩ := S.glo hc
    exact pe_glob g1 g2 rfl g3
  · rename_i hc
    obtain ⟨g1, g2, g3, g4⟩ := S.glo hc
    obtain ⟨p, h1, h2⟩ := Option.map_eq_some_iff.mp h
    have hm := PySem.mem_of_lookup h1
    obtain ⟨q1, q2, q3⟩ := tyNames_ok _ hm
    subst h2
    rw [(q3 Γ).2]
    exact pe_bltn g1 g2 q1 rfl q2 g3
  · cases h
/-- the names of a tuple of types -/
def tyNms (C : Cv) : List Expr → Option (List Ty)
  | [] => some []
  | .Name x _ :: r => match tyNm C x, tyNms C r with
    | some t, some ts => some (t :: ts)
    | _, _ => none
  | _ => none
theorem pa_tyns (S : Sx Γ C k X W) : ∀ {es : List Expr} {ts : List Ty}, tyNms C es = some ts → PA X es (fun _ H Q => Q (ts.map (tyVv Γ)) H)
  | [], ts, h => by
    cases h
    exact pa_nil
  | e :: es, ts, h => by
    unfold tyNms at h
    split at h
    · rename_i e0; cases e0
    · rename_i x pos r e0
      injection e0 with e1 e2
      subst e1 e2
      split at h
      · rename_i t ts' ht hts
        cases h
        exact pa_cons (pe_tyn S ht) (pa_tyns S hts)
      · cases h
    · cases h
theorem kit_any (Q : ClOk Γ cx.T) {d : D} {tv : Value} : ∀ {ts : List Ty} {b : Bool}, (∀ t' b', tyIs cx μ d t' = some b' → PySem.W.kitOne Γ.K tv (tyVal Γ t') = some b') → tyAny cx μ d ts = some b → PySem.W.kitAny Γ.K tv (ts.map (tyVal Γ)) = some b
  | [], b, _, h => by cases h; rfl
  | t :: ts, b, hk, h => by
    unfold tyAny at h
    split at h
    · rename_i h1
      cases h
      exact kitAny_cons (hk t true h1) (fun e => by cases e) fun _ => rfl
    · rename_i h1
      exact kitAny_cons (hk t false h1) (fun _ => kit_any Q hk h) fun e => by cases e
    · cases h
theorem paired_cls (ts : List Ty) : Paired ClsV (ts.map (tyVv Γ)) (ts.map (tyVal Γ)) := by
  induction ts with
  | nil => exact .nil
  | cons t ts ih => exact .cons (tyV_cls Γ t) ih
variable {a : Expr} {x : E} {pos p p2 : Pos}
theorem s_isi1 (S : Sx Γ C k X W) (Q : ClOk Γ cx.T) {z : Str} {t : Ty} (hg : C.glo "isinstance" = some .free) (ht : tyNm C z = some t) (hn : notSt a = true) (hx : x.isSt = false) (ha : PE X a (rdE Γ W (ev cx x))) : PE X (.Call (.Name "isinstance" p) [a, .Name z p2] [] pos) (rdE Γ W (ev cx (.op (.isi [t]) [x]))) := by
  obtain ⟨g1, g2, g3, g4⟩ := S.glo hg
  refine ⟨fun pins s σ H Q0 I h => (pe_callB call_ki g1 g2 (by decide +kernel) (pa_cons ha (pa_cons (pe_tyn S ht) pa_nil) (se_plain hn)) g4 g3 (se_plain hn) rfl).run pins s σ H Q0 I ?_⟩
  refine rdE.mono (op1_eval (nw := false) (by simp) hx h) fun v H1 ro => ?_
  obtain ⟨w, μ, ds, ok, rv, p⟩ := ro
  obtain ⟨d, rfl, r⟩ := rv.one
  have p' : postE Γ W σ w Q0 (match tyAny cx μ d [t] with
    | some b => okB b μ
    | none => .stuck) := p
  cases e : tyAny cx μ d [t] with
  | none => rw [e] at p'; exact p'.elim
  | some b =>
    rw [e] at p'
    have e1 : tyIs cx μ d t = some b := by
      unfold tyAny at e
      split at e
      · rename_i h1; cases e; exact h1
      · rename_i h1
        unfold tyAny at e
        cases e; exact h1
      · cases e
    obtain ⟨tv, q1, q2, _⟩ := ty_of Q ok r e1
    rw [S.hK] at q1 q2
    exact ⟨v, tyVv Γ t, tv, tyVal Γ t, b, rfl, tyV_cls Γ t, q1, q2, postE.vp (W := W) p' ok (.bl b)⟩
theorem s_isiT (S : Sx Γ C k X W) (Q : ClOk Γ cx.T) {zs : List Expr} {kk : Nat} {ts : List Ty} (hg : C.glo "isinstance" = some .free) (ht : tyNms C zs = some ts) (h0 : ts.length ≤ 1000 ∧ ts ≠ []) (hn : notSt a = true) (hx : x.isSt = false) (ha : PE X a (rdE Γ W (ev cx x))) : PE X (.Call (.Name "isinstance" p) [a, .Tuple zs kk p2] [] pos) (rdE Γ W (ev cx (.op (.isi ts) [x]))) := by
  obtain ⟨g1, g2, g3, g4⟩ := S.glo hg
  refine ⟨fun pins s σ H Q0 I h => (pe_callB call_kt g1 g2 (by decide +kernel) (pa_cons ha (pa_cons (pe_tup (pa_tyns S ht)) pa_nil) (se_plain hn)) g4 g3 (se_plain hn) rfl).run pins s σ H Q0 I ?_⟩
  refine rdE.mono (op1_eval (nw := false) (by simp) hx h) fun v H1 ro => ?_
  obtain ⟨w, μ, ds, ok, rv, p⟩ := ro
  obtain ⟨d, rfl, r⟩ := rv.one
  have p' : postE Γ W σ w Q0 (match tyAny cx μ d ts with
    | some b => okB b μ
    | none => .stuck) := p
  refine ⟨by rw [List.length_map, sizeLine_eq]; omega, fun q hq => ?_⟩
  have hw := ok.fresh hq
  have ok2 : OkW Γ (w.add q (.tup (ts.map (tyVv Γ)))) μ (upd H1 q (.tup (ts.map (tyVv Γ)))) := ok.add hq
  have le2 : w.le (w.add q (.tup (ts.map (tyVv Γ)))) := Wd.add_le hw
  cases e : tyAny cx μ d ts with
  | none => rw [e] at p'; exact p'.elim
  | some b =>
    rw [e] at p'
    obtain ⟨t0, b0, e1⟩ : ∃ t0 b0, tyIs cx μ d t0 = some b0 := by
      cases ts with
      | nil => exact absurd rfl h0.2
      | cons t ts =>
        unfold tyAny at e
        split at e
        · exact ⟨_, _, by assumption⟩
        · exact ⟨_, _, by assumption⟩
        · cases e
    obtain ⟨tv, q1, _, q3⟩ := ty_of Q ok2 (r.mono le2) e1
    have q4 := kit_any Q q3 e
    rw [S.hK] at q1 q4
    exact ⟨v, q, ts.map (tyVv Γ), tv, ts.map (tyVal Γ), b, rfl, upd_same, paired_cls ts, q1, q4, p' _ (.bl b) _ le2 ok2 (.val (.bl b))⟩
end
end KP
end

section
set_option maxRecDepth 100000
set_option maxHeartbeats 4000000
/-! KPY: len(set(t)), a tuple of ints. -/
namespace KP
open PySem PySem.Spec PyProof.Rows L2
section
variable {Γ : Glob} {X : Cx} {W : WX} {cx : Cxt} {C : Cv} {k : Nat}
theorem setR_len {w : World} {h : Heap} {a : Addr} {ns : List Int} {c : Nat} (R : SetR w h a (fun j => decide (j ∈ ns)) c) : c = (setI ns).length := by
  obtain ⟨o, es, ep, t, _, _, _, _, h5, h6, _, _, h9, _⟩ := R
  have e : es.toList.length = (setI ns).length := by
    rw [← List.length_map (f := L2.keyOf)]
    refine one_len h5 ((setI_lt ns).imp fun q => Int.ne_of_lt q) fun j => ?_
    rw [setI_mem, ← h6 j]
    simp
  rw [← h9, ← e]
  simp
theorem s_lenset (S : Sx Γ C k X W) {a : Expr} {x : E} {p p2 q pos : Pos} (hg : C.glo "len" = some .free) (hg2 : C.glo "set" = some .free) (na : notSt a = true) (hx : x.isSt = false) (ha : PE X a (rdE Γ W (ev cx x))) : PE X (.Call (.Name "len" p) [.Call (.Name "set" p2) [a] [] q] [] pos) (rdE Γ W (ev cx (.op .lenset [x]))) := by
  obtain ⟨g1, g2, _, _⟩ := S.glo hg
  obtain ⟨f1, f2, _, _⟩ := S.glo hg2
  refine ⟨fun pins s σ H Q I h => ?_⟩
  have h' := op1_eval (nw := false) (by simp) hx h
  refine Call_ (ld_blt I g1 g2 boot_len (callWith_builtin1 (args_cons (Call_ (ld_blt I f1 f2 boot_set ?_)) rfl) rfl rfl))
  refine callWith_type1 (args_cons (thn (ha.run pins s σ H _ I h') fun v s1 q1 => args_nil ?_) (se_plain na)) (se_plain na) rfl
  obtain ⟨xv, H1, I1, r1, w, μ, ds, ok, rv, pp⟩ := q1
  obtain ⟨d, rfl, ra⟩ := rv.one
  cases d <;> first | exact (show False from pp).elim | skip
  rename_i zs
  have p' : postE Γ W σ w Q (match intsOf zs with
    | some ns => if ns.length ≤ 1000 then .ok (.int (((setI ns).length : Nat) : Int)) μ else .stuck
    | none => .stuck) := pp
  split at p'
  · rename_i ns hn
    split at p'
    · rename_i hl
      obtain ⟨l, vs, rfl, hT, hR, hz⟩ := ra.tup_ ok
      have e := hR.ints' hn
      subst e
      rw [S.hK] at hT
      obtain ⟨its, rr, pl, hlen⟩ := I1.tuple hT
      obtain rfl : v = Value.ref l := r1
      refine call_set_tupI ns (I1.ok.hd S.calm) pl rr.ints (by unfold scanBound; omega) fun h2 tk c hS hc hk => args_nil ?_
      have I2 : Inv X pins σ H1 { s1 with heap := h2, toks := tk } := I1.kept hk
      have hcl := setR_len hS
      obtain ⟨o, es, ep, t, ho, hex, hd, _, _, _, _, hf, hn', _⟩ := hS
      exact call_len_set ho hex hd hf (by rw [hn'] <;> omega) ⟨.int ((setI ns).length : Nat), H1, I2.tok _, ⟨_, by rw [hn', hcl]⟩, p'.vp ok (.int _)⟩
    · exact p'.elim
  · exact p'.elim
end
end KP
end

section
set_option maxRecDepth 100000
set_option maxHeartbeats 4000000
/-! KP16: what is built in, by name; methods; slices. -/
namespace KP
open PySem PySem.Spec PyProof.Rows L2
structure Blt where
  nm : Str
  n : Nat
  o : Op
  v : Value
def bltT : List Blt := [⟨"len", 1, .len, .builtin "len"⟩, ⟨"abs", 1, .abs, .builtin "abs"⟩, ⟨"int", 1, .toi, .type "int"⟩, ⟨"tuple", 1, .totup, .type "tuple"⟩, ⟨"list", 1, .tolst, .type "list"⟩, ⟨"all", 1, .all, .builtin "all"⟩, ⟨"any", 1, .any, .builtin "any"⟩,
  ⟨"max", 1, .max1, .builtin "max"⟩, ⟨"max", 2, .max2, .builtin "max"⟩, ⟨"min", 1, .min1, .builtin "min"⟩, ⟨"min", 2, .min2, .builtin "min"⟩, ⟨"repr", 1, .repr, .builtin "repr"⟩, ⟨"str", 1, .tos, .type "str"⟩, ⟨"sorted", 1, .srt, .builtin "sorted"⟩]
structure Bmt where
  T : String
  nm : Str
  n : Nat
  o : Op
  id : String
def bmtT : List Bmt := [⟨"list", "append", 1, .app, "list.append"⟩, ⟨"list", "extend", 1, .ext, "list.extend"⟩, ⟨"list", "index", 1, .index, "list.index"⟩, ⟨"list", "pop", 1, .popA, "list.pop"⟩, ⟨"list", "count", 1, .count, "list.count"⟩, ⟨"tuple", "count", 1, .countT, "tuple.count"⟩, ⟨"str", "join", 1, .join, "str.join"⟩, ⟨"str", "split", 1, .split, "str.split"⟩]
section
variable {Γ : Glob} {X : Cx} {W : WX} {cx : Cxt} {C : Cv} {k : Nat} {w : Wd} {H : Hp} {μ : Mu} {σ0 : St}
/-- what a method is asked of -/
def BmR (T : String) (o : Op) : Prop := T = "list" ∧ (∀ μ d, recvOk o μ d = (lstOf μ d).isSome) ∨ (T = "str" ∧ ∀ μ d, recvOk o μ d = true → ∃ z, d = .str z) ∨ T = "tuple" ∧ ∀ μ d, recvOk o μ d = true → ∃ xs, d = .tup xs
def tyBm (K : PySem.W.Frag) (T : String) (x : V) (H : Hp) : Prop := L2.tyV K T x H ∨ (T = "tuple" ∧ tyT K x H)
theorem tyOkBm {X : Cx} {T : String} : TyOk X T (tyBm X.K T) := by
  intro pins σ H s x v I r ty
  rcases ty with ty | ⟨rfl, ty⟩
  · exact tyV_is I r ty
  · exact tyOkT pins σ H s x v I r ty
abbrev OpL (nw : Bool) (Γ : Glob) (X : Cx) (W : WX) (σ0 : St) (cx : Cxt) (n : Nat) (o : Op) (f : Value) : Prop := CallR X f fun xs H Q => xs.length = n ∧ RO Γ W σ0 xs (fun ds μ => nwR nw (opD cx o ds μ)) H Q
theorem opL_of {o : Op} {f : Value} {n : Nat} (h : OpC Γ X W σ0 cx o f) : OpL false Γ X W σ0 cx n o f := fun pins s σ H xs us Q I r q => h pins s σ H xs us Q I r q.2
theorem blt_ok (S : Sx Γ C k X W) : ∀ t ∈ bltT, bootBuiltins t.nm = some t.v ∧ t.nm ≠ "__name__" ∧ t.o ≠ .not ∧ t.n ≠ 0 ∧ OpL false Γ X W σ0 cx t.n t.o t.v := by
  intro t ht
  simp only [bltT, List.mem_cons, List.not_mem_nil, or_false] at ht
  rcases ht with rfl | rfl | rfl | rfl | rfl | rfl | rfl | rfl | rfl | rfl | rfl | rfl | rfl | rfl <;> refine ⟨by decide +kernel, by decide +kernel, by simp, by simp, ?_⟩
  · exact opL_of (o_lenA S.hK)
  · exact opL_of o_abs
  · exact opL_of o_toi
  · exact opL_of (o_totup S.hK)
  · exact opL_of (o_tolst (nw := false) S.hK)
  · exact opL_of (o_all S.calm)
  · exact opL_of (o_any S.calm)
  · exact o_max1 S.hK S.room S.calm
  · exact opL_of (o_max2 S.calm)
  · exact o_min1 S.hK S.room S.calm
  · exact opL_of (o_min2 S.calm)
  · exact opL_of (o_repr S.hK S.room S.gd)
  · exact opL_of o_tos
  · exact opL_of (o_srt S.hK)
theorem blt_kind : ∀ t ∈ bltT, (∃ id, t.v = .builtin id) ∨ ∃ T, t.v = .type T := by
  intro t ht
  simp only [bltT, List.mem_cons, List.not_mem_nil, or_false] at ht
  rcases ht with rfl | rfl | rfl | rfl | rfl | rfl | rfl | rfl | rfl | rfl | rfl | rfl | rfl | rfl <;> first | exact .inl ⟨_, rfl⟩ | exact .inr ⟨_, rfl⟩
theorem opn_evalL {nw : Bool} {o : Op} (ho : o ≠ .not) {xs : List E} {σ : St} {H : Hp} {Q : VK} (hs : (xs.all fun x => !x.isSt) = true) (h : rdE Γ W (fun ρ μ => nwR nw (ev cx (.op o xs) ρ μ)) σ H Q) :
    rdA Γ W (evs cx xs) σ H fun vs H1 => vs.length = xs.length ∧ RO Γ W σ vs (fun ds μ => nwR nw (opD cx o ds μ)) H1 Q := by
  obtain ⟨w, ρ, μ, ds, g, rv, p⟩ := h
  refine ⟨w, ρ, μ, [], g, trivial, ?_⟩
  simp only [ev_op ho, nwR_bind] at p
  dsimp only
  cases e : evs cx xs ρ μ with
  | ok a μ1 =>
    rw [e, R.ok_bind] at p
    exact fun w1 vs H1 le ok ra => ⟨ra.len.trans (evs_len hs e), w1, μ1, a, ok, ra, postE.mono le p⟩
  | exc c ns vs μ1 => rw [e] at p; exact p
  | stuck => rw [e] at p; exact p
variable {a e b : Expr} {es : List Expr} {x y : E} {xs : List E} {pos p p2 : Pos}
theorem s_callO {nw : Bool} (S : Sx Γ C k X W) {z : Str} {n : Nat} {o : Op} {v : Value} (hv : bootBuiltins z = some v) (hn : z ≠ "__name__") (ho : o ≠ .not) (hk : (∃ id, v = .builtin id) ∨ ∃ T, v = .type T) (hc : ∀ σ0, OpL nw Γ X W σ0 cx n o v)
    (hg : C.glo z = some .free) (hes : (e :: es).all notSt = true) (hxs : (xs.all fun x => !x.isSt) = true) (hl : xs.length = n) (ha : PA X (e :: es) (rdA Γ W (evs cx xs))) : PE X (.Call (.Name z p) (e :: es) [] pos) (rdE Γ W fun ρ μ => nwR nw (ev cx (.op o xs) ρ μ)) := by
  obtain ⟨g1, g2, g3, g4⟩ := S.glo hg
  rw [List.all_cons, Bool.and_eq_true] at hes
  refine ⟨fun pins s σ H Q I h => ?_⟩
  have h' := rdA.mono (opn_evalL ho hxs h) fun vs H1 q => (⟨q.1.trans hl, q.2⟩ : vs.length = n ∧ _)
  rcases hk with ⟨id, rfl⟩ | ⟨T, rfl⟩
  · exact (pe_callB (hc σ) g1 g2 hv ha hn g3 (se_plain hes.1) (bt_plain hes.2)).run pins s σ H Q I h'
  · exact (pe_callTy (hc σ) g1 g2 hv ha hn g3 (se_plain hes.1) (bt_plain hes.2)).run pins s σ H Q I h'
theorem s_blt (S : Sx Γ C k X W) {t : Blt} (ht : t ∈ bltT) (hg : C.glo t.nm = some .free) (hes : (e :: es).all notSt = true) (hxs : (xs.all fun x => !x.isSt) = true) (hl : xs.length = t.n) (ha : PA X (e :: es) (rdA Γ W (evs cx xs))) :
    PE X (.Call (.Name t.nm p) (e :: es) [] pos) (rdE Γ W (ev cx (.op t.o xs))) :=
  s_callO (nw := false) S (blt_ok (σ0 := []) (cx := cx) S t ht).1 (blt_ok (σ0 := []) (cx := cx) S t ht).2.1 (blt_ok (σ0 := []) (cx := cx) S t ht).2.2.1 (blt_kind t ht) (fun σ0 => (blt_ok S t ht).2.2.2.2) hg hes hxs hl ha
theorem s_tolstN (S : Sx Γ C k X W) (hg : C.glo "list" = some .free) (hes : (e :: es).all notSt = true) (hxs : (xs.all fun x => !x.isSt) = true) (hl : xs.length = 1) (ha : PA X (e :: es) (rdA Γ W (evs cx xs))) :
    PE X (.Call (.Name "list" p) (e :: es) [] pos) (rdE Γ W fun ρ μ => nwR true (ev cx (.op .tolst xs) ρ μ)) :=
  s_callO (nw := true) S (by decide +kernel) (by decide +kernel) (by simp) (.inr ⟨_, rfl⟩) (fun σ0 pins s σ H xs us Q I r q => o_tolst (nw := true) S.hK pins s σ H xs us Q I r q.2) hg hes hxs hl ha
/-! ### methods of what is built in -/
theorem bmt_ok (S : Sx Γ C k X W) : ∀ t ∈ bmtT, PlainAttrs t.T ∧ Slot t.T t.nm t.id ∧ typeOf (.builtin t.id) = pure (.type "method_descriptor") ∧ OpM Γ X W σ0 cx t.o t.id ∧ BmR t.T t.o := by
  intro t ht
  simp only [bmtT, List.mem_cons, List.not_mem_nil, or_false] at ht
  have hstr : ∀ (o : Op) (μ : Mu) (d : D), (o = .join ∨ o = .split) → recvOk o μ d = true → ∃ z, d = .str z := by
    intro o μ d ho h
    rcases ho with rfl | rfl <;> (cases d <;> first | exact ⟨_, rfl⟩ | cases h)
  rcases ht with rfl | rfl | rfl | rfl | rfl | rfl | rfl | rfl
  · exact ⟨PySem.F.plainAttrs_list, PySem.F.slot_list_append, PySem.F.type_list_append, o_app, .inl ⟨rfl, fun _ _ => rfl⟩⟩
  · exact ⟨PySem.F.plainAttrs_list, PySem.F.slot_list_extend, PySem.F.type_list_extend, o_ext, .inl ⟨rfl, fun _ _ => rfl⟩⟩
  · exact ⟨PySem.F.plainAttrs_list, PySem.F.slot_list_index, PySem.F.type_list_index, o_index S.hK S.room, .inl ⟨rfl, fun _ _ => rfl⟩⟩
  · exact ⟨PySem.F.plainAttrs_list, PySem.F.slot_list_pop, PySem.F.type_list_pop, o_popA, .inl ⟨rfl, fun _ _ => rfl⟩⟩
  · exact ⟨PySem.F.plainAttrs_list, PySem.F.slot_list_count, PySem.F.type_list_count, o_count S.hK, .inl ⟨rfl, fun _ _ => rfl⟩⟩
  · exact ⟨PySem.F.plainAttrs_tuple, PySem.F.slot_tuple_count, PySem.F.type_tuple_count, o_countT S.hK, .inr (.inr ⟨rfl, fun μ d h => by cases d <;> first | exact ⟨_, rfl⟩ | cases h⟩)⟩
  · exact ⟨PySem.F.plainAttrs_str, PySem.F.slot_str_join, PySem.F.type_str_join, o_join S.hK, .inr (.inl ⟨rfl, fun μ d => hstr _ μ d (.inl rfl)⟩)⟩
  · exact ⟨PySem.F.plainAttrs_str, PySem.F.slot_str_split, PySem.F.type_str_split, o_split (nw := false), .inr (.inl ⟨rfl, fun μ d => hstr _ μ d (.inr rfl)⟩)⟩
/-- what a method may be asked of: not super() -/
def baseOk : Expr → Bool
  | .Call (.Name id _) [] [] _ => !(id == ("super" : Str))
  | _ => true
theorem base_eq {o : Expr} {m : Str} {env : Env} {whole : Sem Value} (h : baseOk o = true) : attributeBase o m env whole = whole := by
  unfold attributeBase
  split
  · rename_i id _ _
    have h' : (!(id == ("super" : Str))) = true := h
    have h2 : (id != ("super" : Str)) = true := h'
    rw [h2]
    simp
  · rfl
def bmF (cx : Cxt) (o : Op) (nw : Bool) (es : List E) : List D → Rho → Mu → R D
  | [d], ρ, μ => if recvOk o μ d then (evs cx es ρ μ).bind fun vs μ => nwR nw (opD cx o (d :: vs) μ) else .stuck
  | _, _, _ => .stuck
theorem bm_eval {nw : Bool} (hK : Γ.K = X.K) {o : Op} {T : String} {σ : St} {H : Hp} {Q : VK} (hr : BmR T o) (h : rdE Γ W (fun ρ μ => nwR nw (ev cx (.bm o x xs) ρ μ)) σ H Q) :
    rdE Γ W (ev cx x) σ H fun v H1 => tyBm X.K T v H1 ∧ rdA Γ W (evs cx xs) σ H1 fun vs H2 => RO Γ W σ (v :: vs) (fun ds μ => nwR nw (opD cx o ds μ)) H2 Q := by
  have h1 : RD Γ W [] (fun ds ρ μ => (ev cx x ρ μ).bind fun d μ => bmF cx o nw xs (ds ++ [d]) ρ μ) σ H Q := by
    obtain ⟨w, ρ, μ, ds, g, rv, p⟩ := h
    refine ⟨w, ρ, μ, [], g, trivial, ?_⟩
    simp only [ev_bm, nwR_bind] at p
    refine Eq.mp (congrArg _ ?_) p
    congr 1
    funext d μ
    show _ = if recvOk o μ d then (evs cx xs ρ μ).bind fun vs μ => nwR nw (opD cx o (d :: vs) μ) else .stuck
    split
    · rw [nwR_bind]
    · cases nw <;> rfl
  refine rdE.mono (RD.eval (f := bmF cx o nw xs) h1) fun v H1 h2 => ?_
  obtain ⟨w, ρ, μ, ds, g, rv, p⟩ := h2
  obtain ⟨d, rfl, r⟩ := rv.one
  have p' : postE Γ W σ w Q (if recvOk o μ d then (evs cx xs ρ μ).bind fun vs μ => nwR nw (opD cx o (d :: vs) μ) else .stuck) := p
  split at p'
  · rename_i hrec
    refine ⟨?_, ?_⟩
    · rcases hr with ⟨rfl, hr⟩ | ⟨rfl, hr⟩ | ⟨rfl, hr⟩
      · rw [hr] at hrec
        obtain ⟨zs, hz⟩ := Option.isSome_iff_exists.mp hrec
        obtain ⟨a, vs, e1, hT, _⟩ := r.lst_ g.ok hz
        subst e1
        exact .inl (.inl ⟨rfl, vs, SqL.of hT⟩)
      · obtain ⟨z, rfl⟩ := hr _ _ hrec
        rw [r.str_]
        exact .inl rfl
      · obtain ⟨zs, rfl⟩ := hr _ _ hrec
        obtain ⟨a, vs, e1, hT, _, _, hp⟩ := r.tupP_ g.ok
        subst e1
        rw [hK] at hT hp
        exact .inr ⟨rfl, a, vs, rfl, hT, hp⟩
    · have h3 : RD Γ W [v] (fun ds ρ μ => (evs cx xs ρ μ).bind fun vs μ => nwR nw (opD cx o (ds ++ vs) μ)) σ H1 Q := ⟨w, ρ, μ, [d], g, rv, p'⟩
      exact rdA.mono (RD.evals (f := fun ds (_ : Rho) μ => nwR nw (opD cx o ds μ)) h3) fun vs H2 h4 => h4.ro
  · exact p'.elim
theorem few_ok {e : Expr} {es : List Expr} {cpos : Pos} {env : Env} (hes : (e :: es).all notSt = true) (hl : (e :: es).length < 30) : ((backTo cpos (starEach (e :: es) env)).all (fun x => !x.1) && (backToKw cpos (keywordEach [] env)).all (fun x => x.1.isSome)
      && decide ((e :: es).length + ([] : List Keyword).length + (if ([] : List Keyword).isEmpty then 0 else 1) < 30)) = true := by
  have h1 : (backTo cpos (starEach (e :: es) env)).any (·.1) = false := bt_plain hes
  have h2 : (backTo cpos (starEach (e :: es) env)).all (fun x => !x.1) = true := by
    rw [List.all_eq_not_any_not]
    simp only [Bool.not_not]
    rw [h1]; rfl
  rw [h2]
  simpa [backToKw, keywordEach] using hl
theorem s_bm {nw : Bool} (S : Sx Γ C k X W) {T : String} {m : Str} {o : Op} {id : String} {apos cpos : Pos} (pa : PlainAttrs T) (sl : Slot T m id) (hty : typeOf (.builtin id) = pure (.type "method_descriptor")) (hc : ∀ σ0, OpMN nw Γ X W σ0 cx o id)
    (hr : BmR T o) (hb : baseOk a = true) (hes : (e :: es).all notSt = true) (hl : (e :: es).length < 30) (hline : (apos.endLine == cpos.line) = true)
    (ho : PE X a (rdE Γ W (ev cx x))) (ha : PA X (e :: es) (rdA Γ W (evs cx xs))) : PE X (.Call (.Attribute a m apos) (e :: es) [] cpos) (rdE Γ W fun ρ μ => nwR nw (ev cx (.bm o x xs) ρ μ)) := by
  have hes' := hes
  rw [List.all_cons, Bool.and_eq_true] at hes'
  exact ⟨fun pins s σ H Q I h => (pe_mG tyOkBm pa sl hty (hc σ) ho ha (base_eq hb) (few_ok hes hl) hline (se_plain hes'.1) (bt_plain hes'.2)).run pins s σ H Q I (bm_eval S.hK hr h)⟩
/-! ### slices -/
def slF (nw : Bool) (lo hi : Option Int) : List D → Rho → Mu → R D
  | [d], _, μ => nwR nw (slcD d lo hi μ)
  | _, _, _ => .stuck
def slP (nw : Bool) (lo : Option Int) (up : Bool) : List D → Rho → Mu → R D
  | [d, .int i], _, μ => if up then nwR nw (slcD d lo (some i) μ) else nwR nw (slcD d (some i) none μ)
  | _, _, _ => .stuck
def slQ (cx : Cxt) (u : E) (nw : Bool) : List D → Rho → Mu → R D
  | [d, .int i], ρ, μ => (ev cx u ρ μ).bind fun j μ => slP nw (some i) true [d, j] ρ μ
  | _, _, _ => .stuck
abbrev rSlx (nw : Bool) (Γ : Glob) (W : WX) (σ : St) : V → Option Int → Option Int → Hp → VK → Prop := fun x lo hi H Q => ∃ w μ d, OkW Γ w μ H ∧ Rv Γ w x d ∧ postE Γ W σ w Q (nwR nw (slcD d lo hi μ))
theorem nw_none {nw : Bool} : nwR nw (.stuck : R D) = .stuck := by cases nw <;> rfl
theorem s_sl0 {nw : Bool} (S : Sx Γ C k X W) (ha : PE X a (rdE Γ W (ev cx x))) : PE X (.Subscript a (.Slice none none none p2) pos) (rdE Γ W fun ρ μ => nwR nw (ev cx (.sl0 x) ρ μ)) := by
  refine ⟨fun pins s σ H Q I h => (pe_slice (r := rSlx nw Γ W σ) (o_slc S.hK) ha po_none po_none).run pins s σ H Q I ?_⟩
  have h1 : RD Γ W [] (fun ds ρ μ => (ev cx x ρ μ).bind fun d μ => slF nw none none (ds ++ [d]) ρ μ) σ H Q := by
    obtain ⟨w, ρ, μ, ds, g, rv, p⟩ := h
    refine ⟨w, ρ, μ, [], g, trivial, ?_⟩
    simp only [ev_sl0, nwR_bind] at p
    exact p
  refine rdE.mono (RD.eval (f := slF nw none none) h1) fun v H1 h2 => ?_
  obtain ⟨w, ρ, μ, ds, g, rv, p⟩ := h2
  obtain ⟨d, rfl, r⟩ := rv.one
  exact ⟨w, μ, d, g.ok, r, p⟩
theorem Rps.rev {Φ : Hp} : ∀ {vs : List V} {ds : List D}, Rps Γ Φ vs ds → Rps Γ Φ vs.reverse ds.reverse
  | [], [], _ => .nil
  | _ :: _, _ :: _, .cons a r => by
    rw [List.reverse_cons, List.reverse_cons]
    exact r.rev.app (.cons a .nil)
def revT (nw : Bool) : List D → Rho → Mu → R D
  | [.tup xs], _, μ => nwR nw (.ok (.tup xs.reverse) μ)
  | _, _, _ => .stuck
def revL (nw : Bool) : List D → Rho → Mu → R D
  | [.tup _], _, _ => .stuck
  | [d], _, μ => nwR nw (match lstOf μ d with
    | some xs => if xs.length ≤ LN then .ok (.lst xs.reverse) μ else .stuck
    | none => .stuck)
  | _, _, _ => .stuck
theorem s_rev {nw : Bool} {j : Nat} {q1 q2 q3 : Pos} (S : Sx Γ C k X W) (hx : x.isSt = false) (ha : PE X a (rdE Γ W (ev cx x))) : PE X (.Subscript a (.Slice none none (some (.UnaryOp .USub (.Constant (.int 1) j q1) q2)) q3) pos) (rdE Γ W fun ρ μ => nwR nw (ev cx (.op .rev [x]) ρ μ)) := by
  refine ⟨fun pins s σ H Q I ⟨w, ρ, μ, ds, g, rv, p⟩ => ?_⟩
  have e : ev cx (.op .rev [x]) ρ μ = (ev cx x ρ μ).bind fun d μ => opD cx .rev [d] μ := by
    rw [ev_op (by decide), evs_cons hx]
    cases ev cx x ρ μ <;> rfl
  simp only [e, nwR_bind] at p
  by_cases ht : ∃ xs μ', ev cx x ρ μ = .ok (.tup xs) μ'
  · refine (pe_revT ha).run pins s σ H Q I ?_
    have h1 : RD Γ W [] (fun ds ρ μ => (ev cx x ρ μ).bind fun d μ => revT nw (ds ++ [d]) ρ μ) σ H Q := by
      obtain ⟨xs, μ', e1⟩ := ht
      refine ⟨w, ρ, μ, [], g, trivial, ?_⟩
      dsimp only
      rw [e1] at p ⊢
      exact p
    refine rdE.mono (RD.eval (f := revT nw) h1) fun v H1 ⟨w, ρ, μ, ds, g, rv, p⟩ => ?_
    obtain ⟨d, rfl, ra⟩ := rv.one
    cases d <;> first | exact (show False from p).elim | skip
    obtain ⟨q, vs, e, hT, hR, hz⟩ := ra.tup_ g.ok
    rw [S.hK] at hT
    exact ⟨q, vs, e, hT, nw_newTup p g.ok hR.rev (by rw [List.length_reverse]; exact hz)⟩
  · refine (pe_revL ha).run pins s σ H Q I ?_
    have h1 : RD Γ W [] (fun ds ρ μ => (ev cx x ρ μ).bind fun d μ => revL nw (ds ++ [d]) ρ μ) σ H Q := by
      refine ⟨w, ρ, μ, [], g, trivial, ?_⟩
      dsimp only
      cases e1 : ev cx x ρ μ with
      | ok d μ' =>
        rw [e1] at p
        cases d with
        | tup xs => exact absurd ⟨_, _, e1⟩ ht
        | _ => exact p
      | exc c ns vs μ' => rw [e1] at p; exact p
      | stuck => rw [e1] at p; exact p
    refine rdE.mono (RD.eval (f := revL nw) h1) fun v H1 ⟨w, ρ, μ, ds, g, rv, p⟩ => ?_
    obtain ⟨d, rfl, ra⟩ := rv.one
    have p' : postE Γ W σ w Q (nwR nw (match lstOf μ d with | some xs => if xs.length ≤ LN then R.ok (.lst xs.reverse) μ else .stuck | none => .stuck)) := by
      cases d <;> first | exact p | exact (show False from p).elim
    split at p'
    · rename_i xs hl
      obtain ⟨q, vs, e, hT, hR⟩ := ra.lst_ g.ok hl
      split at p'
      · rename_i hz
        exact ⟨q, vs, e, SqL.of hT, nw_newLst p' g.ok hR.rev (by rw [List.length_reverse]; exact hz)⟩
      · exact (nw_stuck p').elim
    · exact (nw_stuck p').elim
theorem s_slL {nw : Bool} (S : Sx Γ C k X W) (ha : PE X a (rdE Γ W (ev cx x))) (hb : PE X b (rdE Γ W (ev cx y))) : PE X (.Subscript a (.Slice (some b) none none p2) pos) (rdE Γ W fun ρ μ => nwR nw (ev cx (.slL x y) ρ μ)) := by
  refine ⟨fun pins s σ H Q I h => (pe_slice (r := rSlx nw Γ W σ) (o_slc S.hK) ha (po_some hb) po_none).run pins s σ H Q I ?_⟩
  have h1 : RD Γ W [] (fun ds ρ μ => (ev cx x ρ μ).bind fun d μ => (ev cx y ρ μ).bind fun i μ => slP nw none false (ds ++ [d] ++ [i]) ρ μ) σ H Q := by
    obtain ⟨w, ρ, μ, ds, g, rv, p⟩ := h
    refine ⟨w, ρ, μ, [], g, trivial, ?_⟩
    simp only [ev_slL, nwR_bind] at p
    refine Eq.mp (congrArg _ ?_) p
    congr 1; funext d μ; congr 1; funext i μ
    cases i <;> first | rfl | exact nw_none
  refine rdE.mono (RD.eval (f := fun ds ρ μ => (ev cx y ρ μ).bind fun i μ => slP nw none false (ds ++ [i]) ρ μ) h1) fun v H1 h2 => ?_
  refine rdE.mono (RD.eval (f := slP nw none false) h2) fun u H2 h3 => ?_
  obtain ⟨w, ρ, μ, ds, g, rv, p⟩ := h3
  obtain ⟨d, i, rfl, r1, r2⟩ := rv.two
  cases i <;> first | exact (show False from p).elim | skip
  exact ⟨_, r2.int_, w, μ, d, g.ok, r1, p⟩
theorem s_slU {nw : Bool} (S : Sx Γ C k X W) (ha : PE X a (rdE Γ W (ev cx x))) (hb : PE X b (rdE Γ W (ev cx y))) : PE X (.Subscript a (.Slice none (some b) none p2) pos) (rdE Γ W fun ρ μ => nwR nw (ev cx (.slU x y) ρ μ)) := by
  refine ⟨fun pins s σ H Q I h => (pe_slice (r := rSlx nw Γ W σ) (o_slc S.hK) ha po_none (po_some hb)).run pins s σ H Q I ?_⟩
  have h1 : RD Γ W [] (fun ds ρ μ => (ev cx x ρ μ).bind fun d μ => (ev cx y ρ μ).bind fun i μ => slP nw none true (ds ++ [d] ++ [i]) ρ μ) σ H Q := by
    obtain ⟨w, ρ, μ, ds, g, rv, p⟩ := h
    refine ⟨w, ρ, μ, [], g, trivial, ?_⟩
    simp only [ev_slU, nwR_bind] at p
    refine Eq.mp (congrArg _ ?_) p
    congr 1; funext d μ; congr 1; funext i μ
    cases i <;> first | rfl | exact nw_none
  refine rdE.mono (RD.eval (f := fun ds ρ μ => (ev cx y ρ μ).bind fun i μ => slP nw none true (ds ++ [i]) ρ μ) h1) fun v H1 h2 => ?_
  refine rdE.mono (RD.eval (f := slP nw none true) h2) fun u H2 h3 => ?_
  obtain ⟨w, ρ, μ, ds, g, rv, p⟩ := h3
  obtain ⟨d, i, rfl, r1, r2⟩ := rv.two
  cases i <;> first | exact (show False from p).elim | skip
  exact ⟨_, r2.int_, w, μ, d, g.ok, r1, p⟩
theorem s_slB {nw : Bool} {c : Expr} {z : E} (S : Sx Γ C k X W) (ha : PE X a (rdE Γ W (ev cx x))) (hb : PE X b (rdE Γ W (ev cx y))) (hc : PE X c (rdE Γ W (ev cx z))) : PE X (.Subscript a (.Slice (some b) (some c) none p2) pos) (rdE Γ W fun ρ μ => nwR nw (ev cx (.slB x y z) ρ μ)) := by
  refine ⟨fun pins s σ H Q I h => (pe_slice (r := rSlx nw Γ W σ) (o_slc S.hK) ha (po_some hb) (po_some hc)).run pins s σ H Q I ?_⟩
  have h1 : RD Γ W [] (fun ds ρ μ => (ev cx x ρ μ).bind fun d μ => (ev cx y ρ μ).bind fun i μ => slQ cx z nw (ds ++ [d] ++ [i]) ρ μ) σ H Q := by
    obtain ⟨w, ρ, μ, ds, g, rv, p⟩ := h
    refine ⟨w, ρ, μ, [], g, trivial, ?_⟩
    simp only [ev_slB, nwR_bind] at p
    refine Eq.mp (congrArg _ ?_) p
    congr 1; funext d μ; congr 1; funext i μ
    cases i <;> first | exact nw_none | skip
    show nwR nw (R.bind _ _) = R.bind _ _
    rw [nwR_bind]
    congr 1; funext j μ
    cases j <;> first | rfl | exact nw_none
  refine rdE.mono (RD.eval (f := fun ds ρ μ => (ev cx y ρ μ).bind fun i μ => slQ cx z nw (ds ++ [i]) ρ μ) h1) fun v H1 h2 => ?_
  refine rdE.mono (RD.eval (f := slQ cx z nw) h2) fun u H2 h3 => ?_
  obtain ⟨w, ρ, μ, ds, g, rv, p⟩ := h3
  obtain ⟨d, i, rfl, r1, r2⟩ := rv.two
  cases i <;> first | exact (show False from p).elim | skip
  rename_i i
  refine ⟨i, r2.int_, ?_⟩
  have h4 : RD Γ W [v] (fun ds ρ μ => (ev cx z ρ μ).bind fun j μ => slP nw (some i) true (ds ++ [j]) ρ μ) σ H2 Q := ⟨w, ρ, μ, [d], g, ⟨r1, trivial⟩, p⟩
  refine rdE.mono (RD.eval (f := slP nw (some i) true) h4) fun t H3 h5 => ?_
  obtain ⟨w, ρ, μ, ds, g, rv, p⟩ := h5
  obtain ⟨d, j, rfl, r1, r2⟩ := rv.two
  cases j <;> first | exact (show False from p).elim | skip
  exact ⟨_, r2.int_, w, μ, d, g.ok, r1, p⟩
/-! ### truth of what is no instance -/
theorem tru_plain (S : Sx Γ C k X W) : TruOk Γ X W cx := by
  intro σ0 pins s σ H x v Q I rx h
  obtain ⟨w, μ, d, ok, r, p⟩ := h
  have go : ∀ b, TruV X.K x H b → postB Γ W σ0 w Q (.ok b μ) → wpAny (model X.prog X.w) X.A (truthy v) (TP X pins σ Q) X.xe s := fun b hb q =>
    tru_ok pins s σ H x v Q I rx ⟨b, hb, q w H w.refl ok⟩
  unfold trD at p
  split at p
  · rw [r.non_] at rx
    exact tru_ok pins s σ H _ v Q I rx ⟨false, rfl, p w H w.refl ok⟩
  · rw [r.bl_] at rx
    exact tru_ok pins s σ H _ v Q I rx ⟨_, rfl, p w H w.refl ok⟩
  · rename_i i
    rw [r.int_] at rx
    refine tru_ok pins s σ H _ v Q I rx ⟨(i != 0), rfl, ?_⟩
    have : (i != 0) = decide (i ≠ 0) := by simp [bne, Bool.beq_eq_decide_eq]
    rw [this]; exact p w H w.refl ok
  · rename_i z
    split at p
    · rename_i hz
      rw [r.str_] at rx
      refine tru_ok pins s σ H _ v Q I rx ⟨((z.length : Int) != 0), ⟨hz, rfl⟩, ?_⟩
      have : ((z.length : Int) != 0) = decide (z.length ≠ 0) := by
        by_cases h0 : z.length = 0
        · simp [h0]
        · simp [h0, bne]
      rw [this]; exact p w H w.refl ok
    · exact p.elim
  · rename_i xs
    obtain ⟨a, vs, rfl, hT, hR⟩ := r.lst_ (xs := xs) ok rfl
    have e : (!xs.isEmpty) = !vs.isEmpty := by
      have := hR.len
      cases xs <;> cases vs <;> simp_all
    rw [e] at p
    exact go _ (.inl ⟨vs, SqL.of hT, rfl⟩) p
  · rename_i xs
    obtain ⟨a, vs, rfl, hT, hR, _⟩ := r.tup_ ok
    have e : (!xs.isEmpty) = !vs.isEmpty := by
      have := hR.len
      cases xs <;> cases vs <;> simp_all
    rw [e] at p
    rw [S.hK] at hT
    exact go _ (.inr (.inl ⟨vs, hT, rfl⟩)) p
  · cases r.rp rfl with
    | dct e1 e2 =>
      rename_i a kvs
      have e : (!(kvs.map (·.1)).isEmpty) = !kvs.isEmpty := by cases kvs <;> rfl
      rw [e] at p
      exact go _ (.inr (.inr ⟨kvs, ok.frz _ _ e1, rfl⟩)) p
  · split at p <;> exact p.elim
  · rename_i n
    split at p
    · rename_i xs hx
      have hl : lstOf μ (.cell n) = some xs := by
        unfold lstOf
        dsimp only
        rw [hx]
      obtain ⟨a, vs, rfl, hT, hR⟩ := r.lst_ (xs := xs) ok hl
      have e : (!xs.isEmpty) = !vs.isEmpty := by
        have := hR.len
        cases xs <;> cases vs <;> simp_all
      rw [e] at p
      exact go _ (.inl ⟨vs, SqL.of hT, rfl⟩) p
    · exact p.elim
  · exact p.elim
end
end KP
end

section
set_option maxRecDepth 100000
set_option maxHeartbeats 4000000
/-! KPT: an error is caught and stays a value. -/
namespace KP
open PySem PySem.Spec PyProof.Rows L2
section
variable {X : Cx} {pins : List (Addr × Obj)} {σ : St} {H : Hp} {s : Shared}
/-- the context of an except suite -/
abbrev inSuite (X : Cx) (a : Addr) : Cx := { X with A := X.A.mark (some (.ref a)), calm := false, xe := fun _ _ => False }
theorem ok_in (ok : X.Ok) (a : Addr) : (inSuite X a).Ok where
  mod := ok.mod
  kind := ok.kind
  glob := ok.glob
  blt := ok.blt
  above := ok.above
  inj := ok.inj
  has := ok.has
  cab := ok.cab
  hd := fun z => by cases (show false = true from z)
  frames := ok.frames
  stk := ok.stk
  exf := ok.exf
  bs := ok.bs
  bsz := ok.bsz
  noex := ok.noex
  exfs := ok.exfs
  funs := ok.funs
  frf := ok.frf
theorem inv_in (I : Inv X pins σ H s) (a : Addr) : Inv (inSuite X a) pins σ H s where
  ok := ok_in I.ok a
  os := I.os
  bare := I.bare
  base := I.base
  loc := I.loc
  cell := I.cell
  free := I.free
  freeC := I.freeC
  pin := I.pin
  hok := I.hok
  len := I.len
theorem inv_out (ok : X.Ok) {a : Addr} (I : Inv (inSuite X a) pins σ H s) : Inv X pins σ H s where
  ok := ok
  os := I.os
  bare := I.bare
  base := I.base
  loc := I.loc
  cell := I.cell
  free := I.free
  freeC := I.freeC
  pin := I.pin
  hok := I.hok
  len := I.len
/-- the error is told from now on -/
theorem inv_told (I : Inv X pins σ H s) {a D dx : Addr} {o : Obj} {vs : Array Value} (na : H a = none) (e : s.heap.get? a = some o) (h1 : o.cls = .ref D) (h2 : o.dict = some dx) (h3 : o.data = .fields vs) (nw : X.s_0.heap.get? a = none) (nL : a ≠ X.env.locals) (np : ∀ p ∈ X.pn ++ pins, p.1 ≠ a) :
    Inv X pins σ (upd H a (exO a D dx)) s := by
  have up : ∀ {b : Addr} {u : HO}, H b = some u → upd H a (exO a D dx) b = some u := fun {b u} q => by rw [upd_ne (ne_of_none q na)]; exact q
  refine ⟨I.ok, I.os, I.bare, ⟨I.base.keep, I.base.slot, fun b u q n hx => ?_, I.base.there, fun b xs q => up (I.base.tups b xs q), fun b u v q => up (I.base.frzs b u v q), fun b ps q => ?_⟩, I.loc, I.cell, ?_, fun y c q => ?_, fun p hp => ?_, fun b u q => ?_, I.len⟩
  · have hb : b ≠ a := fun z => by rw [z, nw] at q; cases q
    rw [upd_ne hb]
    exact I.base.free b u q n hx
  · obtain ⟨more, q'⟩ := I.base.tbls b ps q
    exact ⟨more, up q'⟩
  · rw [upd_ne (Ne.symm nL)]
    exact I.free
  · have hc : c ≠ a := fun z => by
      obtain ⟨v, oc, g1, g2⟩ := I.cell y c q
      rw [z, e] at g1
      cases g1
      rw [h3] at g2
      cases g2
    rw [upd_ne hc]
    exact I.freeC y c q
  · obtain ⟨g1, g2, g3⟩ := I.pin p hp
    exact ⟨g1, by rw [upd_ne (np p hp)]; exact g2, g3⟩
  · by_cases hb : b = a
    · subst hb
      rw [upd_same] at q
      cases q
      exact ⟨⟨o, e, h1, h2, vs, h3⟩, ⟨o, e⟩, fun g1 g2 ⟨o', k1, k2⟩ st => ⟨o', st _ k1, k2⟩⟩
    · rw [upd_ne hb] at q
      exact (I.hok b u q).stay (fun _ _ _ z => z) (fun _ z => up z) fun _ _ z => up z
/-- what 'except c as n' wishes of an error of the body; the error stays known -/
def wTr (K : PySem.W.Frag) (c : Value) (i : Nat) (ts : TS) (Wout : WX) (Z : Ends) : WX := fun cls d σ H =>
  ∃ b, PySem.W.exmOne K cls c = some b ∧ (b = false → Wout cls d σ H) ∧
    (b = true → ∃ D dx, cls = .ref D ∧ d = some dx ∧ ∀ a, H a = none → ts ⟨fun σ' H' => Z.nx (σ'.set i none) H', Z.rt, fun σ' H' => Z.bk (σ'.set i none) H', fun σ' H' => Z.ct (σ'.set i none) H'⟩ (σ.set i (some (.ref a))) (upd H a (exO a D dx)))
end
section
variable {X : Cx} {z n : Str} {c : Value} {i : Nat} {body suite : List Stmt} {b0 : Stmt} {p1 p2 p3 : Pos} {tb : WX → TS} {ts : TS} {Wout : WX}
theorem ps_caught (hex : X.ex = []) (hs : X.stack = X.env :: X.outer) (hf : X.env.frame = some X.env.locals) (hN : X.N.Nodup) (hi : X.N[i]? = some n) (hln : X.env.kindOf n = some .local) (hc : Names X z c) (tk : Takes X Wout)
    (hb : ∀ (W : WX) (pn : List (Addr × Obj)) (xe : Value → Shared → Prop), Takes (X.tr pn xe) W → PassesOwn (model X.prog X.w) X.A X.env xe → PSs (X.tr pn xe) body (tb W))
    (hsu : ∀ a, PSs (inSuite X a) (b0 :: suite) ts) :
    PS X (.Try body [.ExceptHandler (some (.Name z p1)) (some n) (b0 :: suite) p2] [] [] p3) (fun Z σ H => tb (wTr X.K c i ts Wout Z) Z σ H) := by
  refine ⟨fun pins s σ H Z I h => wpAny_Try_except ?_⟩
  have ok := I.ok
  have hfr : X.A.frames = some (X.env :: X.outer) := by rw [ok.frames, hs]
  have run := (hb (wTr X.K c i ts Wout Z) (X.pn ++ pins) (fun e s1 => wpAny (model X.prog X.w) X.A (noteFrame e X.env) (fun _ s2 => wpAny (model X.prog X.w) X.A (setFlight e none) (fun _ s3 => wpAny (model X.prog X.w) X.A (handleBy e X.env [.ExceptHandler (some (.Name z p1)) (some n) (b0 :: suite) p2]) (SP X pins Z) X.xe s3) X.xe s2) X.xe s1) ?_ PassesOwn.looking).run [] s σ H Z (I.toTry _) h
  · refine wpAny_mono run (fun f s1 q => ?_) fun _ _ q => q
    cases f with
    | next => exact let ⟨σ', H', J, q⟩ := q; wpAny_execs_nil ⟨σ', H', J.ofTry ok, q⟩
    | brk => exact let ⟨σ', H', J, q⟩ := q; ⟨σ', H', J.ofTry ok, q⟩
    | cont => exact let ⟨σ', H', J, q⟩ := q; ⟨σ', H', J.ofTry ok, q⟩
    | ret u => exact let ⟨v, σ', H', J, r, q⟩ := q; ⟨v, σ', H', J.ofTry ok, r, q⟩
  · intro u s' xx
    obtain ⟨a, B, sI, pins', σ', H', cls, d, rfl, J', nb, up, sky, na, os, ag, b, hb1, hno, hyes⟩ := xx
    have J : Inv X pins σ' H' sI := J'.ofTry ok
    rw [show (X.tr (X.pn ++ pins) _).stack = X.env :: X.outer from hs] at sky nb
    have nb' : ∀ b o, sI.heap.get? b = some o → b ∉ frs X.stack → B.get? b = some o := by rw [hs]; exact nb
    refine Sky.land Zc.steady hfr hf sky fun h3 fl3 up3 => ?_
    have J3 : Inv X pins σ' H' { s' with heap := h3 } := J.landed nb' fl3.1 (up.trans up3) os ag
    obtain ⟨oe, vs, g1, g2, g3⟩ := fl3.there
    have nfr : ∀ {h : Heap} {o : Obj} {vs : Array Value}, h.FunFrames B (X.env :: X.outer) → h.get? a = some o → o.data = .fields vs → a ∉ frs (X.env :: X.outer) := fun {h o vs} ff e dd hm => by
      obtain ⟨_, o', e', hnf⟩ := ff.mem hm
      rw [e] at e'
      cases e'
      exact hnf _ dd
    have nf := nfr fl3.2.2.1 g1 g3
    have nL : a ≠ X.env.locals := fun q => nf (List.mem_filterMap.mpr ⟨X.env, List.mem_cons_self, by rw [hf, q]⟩)
    have nF : a ∉ X.fs := fun hm => let ⟨e, he, q⟩ := List.mem_filterMap.mp hm; nf (List.mem_filterMap.mpr ⟨e, List.mem_cons_of_mem _ he, q⟩)
    -- whatever stood ahead of the raise is another
    have old : ∀ b o, sI.heap.get? b = some o → b ≠ a := fun b o e q => by
      subst q
      have := nb b o e nf
      rw [fl3.2.1] at this
      cases this
    have nw : X.s_0.heap.get? a = none := by
      cases e : X.s_0.heap.get? a with
      | none => rfl
      | some o =>
        obtain ⟨o', q⟩ := J.base.there a o e (by rw [hex]; simp)
        exact absurd rfl (old a o' q)
    have np : ∀ p ∈ X.pn ++ pins, p.1 ≠ a := fun p hp => old _ _ (J.pin p hp).1
    have S3 := J3.suite g1 g3 na nL nF
    refine wpAny_handleBy_cons (codeAny_handlers_test ?_) (by intro q; cases q)
    have LT : PySem.W.Looks (model X.prog X.w) h3 (typeOf (.ref a)) cls := fun A Q E s k q => wpAny_typeOf_ref (k _ _ g1) (by rw [g2.1]; exact q)
    have LM := PySem.W.exm_one (M := model X.prog X.w) J3.kIn LT hb1
    suffices hq : ∀ {Q : Value → Shared → Prop} {E : Value → Shared → Prop}, Q c { s' with heap := h3 } → wpAny (model X.prog X.w) (X.A.mark (some (.ref a))) (eval (.Name z p1) X.env) Q E { s' with heap := h3 } by
      refine hq (LM.here ?_)
      cases b with
      | false =>
        show wpAny _ X.A (handleBy (.ref a) X.env []) _ _ _
        refine wpAny_handleBy_nil ?_
        obtain ⟨k1, k2, k3, oe', vs', T, oT, ts', e1, e2, e3, e4, e5⟩ := id fl3
        unfold PySem.passOn
        refine wpAny_bind (wpAny_field e1 e3 e4 ?_)
        rw [if_neg (by simp : ¬ ((Value.ref T == Value.none) = true))]
        have fin : wpAny (model X.prog X.w) X.A (setFlight (.ref a) X.env.frame) (fun _ s4 => wpAny (model X.prog X.w) X.A (throw (.ref a) : Sem Flow) (SP X pins Z) X.xe s4) X.xe { s' with heap := h3 } := by
          rw [hf]
          exact HandSPX.setFlight_upZ fl3 fun h4 q4 up4 => wpAny_throw (tk _ _ ⟨a, B, sI, pins, σ', H', cls, d, rfl, J, nb', (up.trans up3).trans up4, .inr (.inr (by rw [hs]; exact q4)), na, os, ag, hno rfl⟩)
        first
          | exact wpAny_bind fin
          | exact wpAny_bind (wpAny_pure (wpAny_bind fin))
      | true =>
        refine codeAny_handlers_suite_as (HandSPX.lands_againZ fl3 fun h4 fl4 up4 => ?_)
        have J4 : Inv X pins σ' H' { s' with heap := h4 } := J.landed nb' fl4.1 ((up.trans up3).trans up4) os ag
        obtain ⟨o4, v4, e1, e2, e3⟩ := fl4.there
        obtain ⟨D, dx, rfl, rfl, hy⟩ := hyes rfl
        have S4 := inv_in (inv_told J4 na e1 e2.1 e2.2 e3 nw nL np) a
        refine store_ok (X := inSuite X a) (v := .ref a) S4 hN hi (.inl hln) rfl (fun s5 S5 => ?_) (.inr hln)
        refine wpAny_mono ((hsu a).run pins s5 _ _ _ S5 (hy a na)) (fun f s6 q => ?_) fun _ _ q => False.elim q
        have close : ∀ {σ6 : St} {H6 : Hp} {Q : Shared → Prop}, Inv (inSuite X a) pins σ6 H6 s6 → (∀ s7, Inv X pins (σ6.set i none) H6 s7 → Q s7) →
            wpAny (model X.prog X.w) X.A (do bindName X.env n .none; unbindBehindTheSuite X.env n p2) (fun _ s7 => Q s7) X.xe s6 := fun S6 hq => gone_ok (inv_out ok S6) hN hi hln hq
        cases f with
        | next => exact let ⟨σ6, H6, S6, q⟩ := q; close S6 fun s7 J7 => ⟨_, _, J7, q⟩
        | brk => exact let ⟨σ6, H6, S6, q⟩ := q; close S6 fun s7 J7 => ⟨_, _, J7, q⟩
        | cont => exact let ⟨σ6, H6, S6, q⟩ := q; close S6 fun s7 J7 => ⟨_, _, J7, q⟩
        | ret u => exact let ⟨v, σ6, H6, S6, r, q⟩ := q; close S6 fun s7 J7 => ⟨_, _, _, J7, r, q⟩
    intro Q E q
    obtain ⟨hg, hdbg, hm | ⟨hm, hv, hnn⟩⟩ := hc
    · exact ld_glob (X := X.suite a ((a, oe) :: (X.pn ++ pins))) S3 hg hm q hdbg
    · exact ld_blt (X := X.suite a ((a, oe) :: (X.pn ++ pins))) S3 hg hm hv q hnn hdbg
end
end KP
end

section
set_option maxRecDepth 100000
set_option maxHeartbeats 4000000
/-! KPL: a lambda handed to a def that calls it within a try. -/
namespace KP
open PySem PySem.Spec PyProof.Rows L2
section
variable {X : Cx} {pins : List (Addr × Obj)} {σ : St} {H : Hp} {s : Shared}
abbrev lamO (X : Cx) (params : Arguments) (body : Expr) (scope : Scope) (c' : Addr) (pm ctv : Value) : Obj := PySem.W.kla_obj "<lambda>" (X.env.qual ++ "<lambda>") params body scope (cloFrom X.env.cells scope.names []) pm c' ctv
/-- the context of the def that gets the lambda -/
abbrev catX (X : Cx) (Ng : List Str) (qg : Str) (sg : Scope) (g : Addr) (cdg : Value) (s : Shared) (H : Hp) (E : XK) : Cx := cxOf (L2.CX X.prog X.w) X.prog X.w X.K X.mg X.base Ng qg sg g cdg X.A X.stack s H E
/-- the lambda is called, in the def that got it -/
theorem pe_ask {Eg : XK} {Ng : List Str} {qg : Str} {sg : Scope} {g f c' : Addr} {cdg pm ctv : Value} {params : Arguments} {body : Expr} {scope : Scope} {k i : Nat} {a : Str} {pn : List (Addr × Obj)} {xe : Value → Shared → Prop} {W : WX} {tb : XK → TE} {p1 p2 : Pos}
    (hg0 : X.A.guards = some []) (I : Inv X pins σ H s) (L : LamX.LamS X.env.scope scope) (hf : s.heap.get? f = some (lamO X params body scope c' pm ctv)) (hfn : H f = none) (hfr : f ∉ frs X.stack)
    (hbind : bindArgs (PySem.W.kla_fn "<lambda>" (X.env.qual ++ "<lambda>") params body scope (cloFrom X.env.cells scope.names []) pm (.ref c') ctv) ⟨[], []⟩ = pure [])
    (tk : Takes ((catX X Ng qg sg g cdg s H Eg).tr pn xe) W) (hr : Room (k + 1) (X.A.deeper (envOfC qg sg s.heap.objs.size g cdg)))
    (hbody : ∀ (E : XK) (A : Around) (outer : List Env) (s : Shared) (H : Hp), A.guards = some [] → Room k (A.deeper (LamX.lamEnv X scope s.heap.objs.size f c')) → PE (LamX.lamCx X A outer s H E scope f c') body (tb E))
    (hN : Ng[i]? = some a) (hv : Vis sg a) (hd : (a == ("__debug__" : Str)) = false) (hcd : (a == ("__classdict__" : Str)) = false) :
    PE ((catX X Ng qg sg g cdg s H Eg).tr pn xe) (.Call (.Name a p1) [] [] p2) (fun σZ HZ Q => σZ[i]? = some (some (.ref f)) ∧ HZ c' = some (LamX.CodeO c' (X.env.qual ++ "<lambda>")) ∧ tb (WE W σZ) σ HZ Q) := by
  refine ⟨fun pinsZ sZ σZ HZ Q IZ ⟨hs, hc, ht⟩ => wpAny_Call_Name_kw (thn ((pe_var (pos := p1) (i := i) hN hv hd hcd).run pinsZ sZ σZ HZ (fun v H1 => v = .ref f ∧ H1 = HZ) IZ ⟨_, hs, rfl, rfl⟩) fun u s1 ⟨v, H1, I1, r1, ev, eH⟩ => ?_)⟩
  subst ev eH
  cases r1
  have of1 := I1.base.keep f _ hf hfn hfr (fun z => by cases (show f ∈ ([] : List Addr) from z))
  have un : Un (frs X.stack) [] H H1 s.heap s1.heap := I1.base
  refine PySem.W.callWith_F0 ⟨_, _, _, _, of1⟩ (wpAny_call ?_)
  obtain ⟨⟨oc, vs, t, g1, g2, g3⟩, _, _⟩ := I1.hok c' _ hc
  have run : codeAny (model X.prog X.w) (X.A.deeper (envOfC qg sg s.heap.objs.size g cdg)) (.call (.ref f) ⟨[], []⟩) (CR (L2.CX X.prog X.w) (envOfC qg sg s.heap.objs.size g cdg :: X.stack) X.prog X.w H1 s1 Q (WE W σZ)) s1 := by
    refine PySem.W.kla_callFunE hr.depth of1 rfl L.co L.gen rfl ⟨c', oc, vs, t, rfl, g1, g2, g3⟩ ?_
    rw [hbind]
    refine wpAny_pure (wpAny_newFunctionEnv (fun y hy => (L.own y hy).2) (fun y hy => by cases hy) (fun h1 hns hsb => ⟨I1.nolimit.fresh _ hsb, ?_⟩) L.kind)
    have kp : ∀ b o, s1.heap.get? b = some o → h1.get? b = some o := fun b o e => hsb.extBut b o (Nat.ne_of_lt (Heap.lt_size e)) (Heap.get?_push_of_some _ e)
    have J : Inv (LamX.lamCx X (X.A.deeper (envOfC qg sg s.heap.objs.size g cdg)) (envOfC qg sg s.heap.objs.size g cdg :: X.stack) s1 H1 (WE W σZ) scope f c') [] σ H1 { s1 with heap := h1, toks := s1.toks + ([] : List (Str × Value)).length } := LamX.lam_start2 I L I1.env0 hr.hd un hns kp
    refine PySem.W.kla_codeExpr (wpAny_mono ((hbody (WE W σZ) (X.A.deeper (envOfC qg sg s.heap.objs.size g cdg)) (envOfC qg sg s.heap.objs.size g cdg :: X.stack) s1 H1 hg0 (hr.deeper _)).run [] _ _ H1 Q J ht) (fun v s' q => ?_) fun _ _ q => q)
    exact let ⟨w', H', J', rv, q⟩ := q; ⟨w', H', J'.os, J'.bare, J'.base, J'.hok, rv, q⟩
  refine codeAny_mono run fun r s' q => ?_
  cases r with
  | error e => exact passAt tk σZ pinsZ H1 s1 e s' I1 q
  | ok fl =>
    cases fl with
    | ret u => exact I1.after q
    | next => exact False.elim q
    | brk => exact False.elim q
    | cont => exact False.elim q
end
/-! ### the def that gets the lambda -/
/-- x: what it makes of the lambda's answer -/
def CatOk (Γ : Glob) (P : Program) (w : World) (mg : Str → Option Value) (base : Heap) (k : Nat) (lf : Nat → R D → R D) (ga : Addr) : Prop :=
  ∃ (oc : Value) (od : Option Addr) (name qual : Str) (params : Arguments) (body : List Stmt) (scope : Scope) (dV kV doc pm cdv ct : Value) (an : Option Addr) (osl : Array (Option Value)) (N : List Str) (a : Str),
    Γ.K.lookup ga = some ⟨oc, od, .func (PySem.W.fnOf name qual params body scope dV kV doc pm an cdv ct), osl⟩ ∧ PySem.W.codeIn Γ.K cdv qual = true ∧ L2.Binds Γ.K (PySem.W.fnOf name qual params body scope dV kV doc pm an cdv ct) [a] [] ∧ FnScope N [a] scope ∧
    N[0]? = some a ∧ Vis scope a ∧ (a == ("__debug__" : Str)) = false ∧ (a == ("__classdict__" : Str)) = false ∧
    ∀ (A : Around) (outer : List Env) (s : Shared) (H : Hp) (E : XK) (f c' : Addr) (q : Str) (tl : XK → Hp → VK → Prop) (r : R D) (n : Nat) (w0 : Wd) (Q : VK), A.guards = some [] → Room k (A.deeper (envOfC qual scope s.heap.objs.size ga cdv)) →
      (∀ (W : WX) (pn : List (Addr × Obj)) (xe : Value → Shared → Prop) (p1 p2 : Pos), Takes ((cxOf (L2.CX P w) P w Γ.K mg base N qual scope ga cdv A outer s H E).tr pn xe) W →
        PE ((cxOf (L2.CX P w) P w Γ.K mg base N qual scope ga cdv A outer s H E).tr pn xe) (.Call (.Name a p1) [] [] p2) (fun σZ HZ Q => σZ[0]? = some (some (.ref f)) ∧ HZ c' = some (LamX.CodeO c' q) ∧ tl (WE W σZ) HZ Q)) →
      H c' = some (LamX.CodeO c' q) → (∀ (E' : XK) (Q' : VK), postE Γ (fun c d _ H => E' c d H) [] w0 Q' r → tl E' H Q') → w0.θ.length ≤ n → postE Γ (fun c d _ H => E c d H) [] w0 Q (lf n r) →
      ∃ t, PSs (cxOf (L2.CX P w) P w Γ.K mg base N qual scope ga cdv A outer s H E) body t ∧ t { nx := fun _ H' => Q .non H', rt := Q } (L2.start N [.ref f]) H
theorem postE.sig {Γ : Glob} {E : XK} {σ σ' : St} {w : Wd} {Q : VK} {r : R D} (h : postE Γ (fun c d _ H => E c d H) σ w Q r) : postE Γ (fun c d _ H => E c d H) σ' w Q r := by
  cases r <;> exact h
theorem postE.at {Γ : Glob} {W : WX} {σ σ' : St} {w : Wd} {Q : VK} {r : R D} (h : postE Γ W σ w Q r) : postE Γ (fun c d _ H => WE W σ c d H) σ' w Q r := by
  cases r <;> exact h
section
variable {Γ : Glob} {X : Cx} {W : WX} {cx : Cxt} {C : Cv} {k : Nat}
/-- the names in a lambda -/
def Cv.lam (C : Cv) (scope : Scope) : Cv := { C with sc := scope, st := fun _ => false, lm := none, bl := false }
theorem Sx.lam (S : Sx Γ C k X W) {scope : Scope} {f c' : Addr} (E : XK) (A : Around) (outer : List Env) (s : Shared) (H : Hp) (hg : A.guards = some []) (hr : Room k (A.deeper (LamX.lamEnv X scope s.heap.objs.size f c'))) :
    Sx Γ (C.lam scope) k (LamX.lamCx X A outer s H E scope f c') (fun c d _ H => E c d H) where
  hK := S.hK
  hN := S.hN
  sc := rfl
  nd := S.nd
  calm := rfl
  room := hr
  gd := hg
  tk := fun _ => takes_of rfl rfl rfl rfl
  po := fun _ => passes_of rfl
  stk := fun _ => rfl
  frm := fun _ => rfl
  pa := fun σ => passAt (takes_of rfl rfl rfl rfl) σ
  gl := fun p hp => by
    have h := S.gl p hp
    obtain ⟨x, g⟩ := p
    cases g <;> exact h
  stq := fun x h => by cases (show false = true from h)
  lmk := fun q h => by cases (show none = some q from h)
  nmk := S.nmk
def noPar : Arguments → Bool
  | ⟨[], [], none, [], [], none, []⟩ => true
  | _ => false
theorem s_lam (S : Sx Γ C k X W) {g : Nat} {q z : Str} {params : Arguments} {body : Expr} {scope : Scope} {x : E} {p lp pos : Pos} (hz : C.glo z = some (.ctc g)) (hq : C.lm = some q) (hs : LamX.lamSB C.sc scope = true) (hp : noPar params = true)
    (F : CatOk Γ X.prog X.w X.mg X.base k (cx.lf g) (Γ.cad g))
    (hb : ∀ (E : XK) (A : Around) (outer : List Env) (s : Shared) (H : Hp) (f c' : Addr), Sx Γ (C.lam scope) k (LamX.lamCx X A outer s H E scope f c') (fun c d _ H => E c d H) → PE (LamX.lamCx X A outer s H E scope f c') body (rdE Γ (fun c d _ H => E c d H) (ev cx x))) :
    PE X (.Call (.Name z p) [.Lambda params body scope lp] [] pos) (rdE Γ W (ev cx (.lam g x))) := by
  obtain ⟨g1, ⟨g2, g2k⟩, g3, _⟩ := S.glo hz
  obtain ⟨hr, hnm, c, P, hcode, TB, hmT, hu⟩ := S.lmk q hq
  subst hnm
  have L : LamX.LamS X.env.scope scope := by rw [S.sc]; exact LamX.lamS_by hs
  obtain ⟨oc, od, name, qual, prs, bg, sg, dV, kV, doc, pmv, cdv, ct, an, osl, N, a, lk, hcd, hbd, Sg, hN0, hva, hda, hca, run⟩ := F
  have hpar : params = ⟨[], [], none, [], [], none, []⟩ := by
    unfold noPar at hp
    split at hp
    · rfl
    · cases hp
  subst hpar
  refine ⟨fun pins s σ H Q I h => ?_⟩
  obtain ⟨w, ρ, μ, ds, gd, rv, pp⟩ := h
  dsimp only at pp
  rw [ev_lam] at pp
  refine wpAny_Call_Name_kw (ld_glob I g1 g2 (PySem.W.callWith_K (h₀ := X.base) I.ok.mod.kin g2k ?_ (by rfl) (by rfl)) g3)
  show wpAny _ _ (spliced ((false, eval (.Lambda ⟨[], [], none, [], [], none, []⟩ body scope lp) X.env) :: backTo pos (starEach [] X.env))) _ _ s
  refine Calls.spliced_cons (LamX.lam_make2 I TB hcode hmT hu gd.ok.tab rfl (L.has I.ok) fun f c' pm' ctv H1 s' I1 eN T1 hf hfn hfr hco => Calls.spliced_nil ⟨I1.kIn, ?_⟩)
  have ok1 : OkW Γ w μ H1 := gd.ok.coded eN T1
  obtain ⟨ok2, le2⟩ := ok1.known hco rfl (fun ps z => by cases z)
  rw [S.hK] at lk hcd hbd
  have rc : codeAny (model X.prog X.w) X.A (.call (.ref (Γ.cad g)) ⟨[.ref f], []⟩) (CR (L2.CX X.prog X.w) X.stack X.prog X.w H1 s' Q (WE W σ)) s' := by
    refine LamX.run_ofS (N := N) (ps := [a]) (us := [.ref f]) (vs := [.ref f]) lk hcd Sg hr I1.env0 (hbd s' [.ref f] I1.kIn rfl) (.cons rfl .nil) rfl fun hr' => ?_
    have := run X.A X.stack s' H1 (WE W σ) f c' (X.env.qual ++ "<lambda>") (fun E' HZ Q' => rdE Γ (fun c d _ H => E' c d H) (ev cx x) σ HZ Q') (ev cx x ρ μ) μ.length _ Q S.gd (hr'.mono (Nat.le_succ k)) ?_ hco ?_ (Nat.le_of_eq ok2.len) (postE.mono le2 pp.at)
    · rw [S.hK] at this
      exact this
    · intro W' pn xe p1 p2 tk
      rw [S.hK] at tk ⊢
      exact pe_ask (tb := fun E' => rdE Γ (fun c d _ H => E' c d H) (ev cx x)) S.gd I1 L hf hfn hfr rfl tk hr' (fun E A outer s H hg0 hr2 => hb E A outer s H f c' (S.lam E A outer s H hg0 hr2)) hN0 hva hda hca
    · exact fun E' Q' h => ⟨_, ρ, μ, [], ⟨gd.st.mono le2, ok2⟩, trivial, h.sig⟩
  refine wpAny_call (codeAny_mono rc fun r s2 hq => ?_)
  cases r with
  | error e => exact S.pa σ pins H1 s' e s2 I1 hq
  | ok fl =>
    cases fl with
    | ret u => exact I1.after hq
    | next => exact False.elim hq
    | brk => exact False.elim hq
    | cont => exact False.elim hq
end
end KP
end

section
set_option maxRecDepth 100000
set_option maxHeartbeats 4000000
/-! KPU: a lambda with one parameter that has a default, handed to a def that calls it with nothing. -/
namespace KP
open PySem PySem.Spec PyProof.Rows L2
/-- its parameters -/
def parD (a : Str) (p0 : Pos) (an : Option Expr) (i : Int) (j : Nat) (p1 : Pos) : Arguments := ⟨[], [⟨a, an, p0⟩], none, [], [], none, [.Constant (.int i) j p1]⟩
section
variable {M : Model} {A : Around} {E : Value → Shared → Prop} {s : Shared}
/-- what it binds if nothing is handed in -/
theorem bind_D {a : Str} {p0 p1 : Pos} {an : Option Expr} {i : Int} {j : Nat} {T : Addr} {o : Obj} {v : Value} {n : Nat} {R : List (Str × Value) → Shared → Prop} {fd : FuncData} (hp : fd.params = parD a p0 an i j p1) (hd : fd.defaults = .ref T) (ho : s.heap.get? T = some o) (od : o.data = .seq #[v] n) (h : R [(a, v)] s) :
    wpAny M A (bindArgs fd ⟨[], []⟩) R E s := by
  obtain ⟨k, e1, e2⟩ : ∃ k, bindArgs fd ⟨[], []⟩ = seqItems? (.ref T) >>= k ∧ k (some #[v]) = pure [(a, v)] := by
    unfold bindArgs
    rw [hp, hd]
    refine ⟨_, rfl, ?_⟩
    simp [parD, List.lookup]
  rw [e1]
  exact wpAny_bind (wpAny_seqItems ho od (by rw [e2]; exact wpAny_pure h))
end
/-! ### it is made -/
abbrev lamQ (X : Cx) : Str := X.env.qual ++ "<lambda>"
abbrev lamD (X : Cx) (params : Arguments) (body : Expr) (scope : Scope) (c' t : Addr) (doc pm ctv : Value) : Obj := PySem.W.kdv_obj "<lambda>" (lamQ X) params (.expr body) scope (cloFrom X.env.cells scope.names []) (.ref t) doc pm c' ctv
section
variable {X : Cx} {pins : List (Addr × Obj)} {σ : St} {H : Hp} {s : Shared}
theorem frs_lt (I : Inv X pins σ H s) {a : Addr} (h : s.heap.objs.size ≤ a) : a ∉ frs X.stack := fun z => by
  rcases List.mem_cons.mp (I.stkSub a z) with e | e
  · exact Nat.not_lt.mpr h (by rw [e]; exact I.lt)
  · exact I.nofs h e
/-- a table with one code object more -/
theorem tabs_more {TT : List (Addr × Str)} {P c' : Addr} {q : Str} {ps : Array Value} {pos : Pos} (hT : LamX.Tabs TT H) (hP : H P = some (.tbl ps)) (ht : TriplesOk ps.toList) (hu : ∀ p ∈ TT, p.1 = P → p.2 = q) (nC : H c' = none)
    (ha : ∀ (pos : Pos) (cv : Value), codeAmong pos ps.toList = some cv → ∃ c, cv = .ref c ∧ H c = some (LamX.CodeO c q)) :
    LamX.Tabs TT (upd (upd H P (.tbl (ps ++ #[rawInt pos.line, rawInt pos.col, .ref c']))) c' (LamX.CodeO c' q)) ∧ LamX.ExtN H (upd (upd H P (.tbl (ps ++ #[rawInt pos.line, rawInt pos.col, .ref c']))) c' (LamX.CodeO c' q)) := by
  have ext : LamX.ExtN H (upd (upd H P (.tbl (ps ++ #[rawInt pos.line, rawInt pos.col, .ref c']))) c' (LamX.CodeO c' q)) := fun b o e n => by
    have h1 : b ≠ c' := ne_of_none e nC
    have h2 : b ≠ P := fun z => n ps (by rw [z, hP] at e; exact (Option.some.inj e).symm)
    rw [upd_ne h1, upd_ne h2]
    exact e
  have lst : (ps ++ #[rawInt pos.line, rawInt pos.col, .ref c']).toList = ps.toList ++ [rawInt pos.line, rawInt pos.col, .ref c'] := by simp
  refine ⟨fun p hp => ?_, ext⟩
  by_cases hb : p.1 = P
  · rw [hu p hp hb, hb]
    refine ⟨ps ++ #[rawInt pos.line, rawInt pos.col, .ref c'], ?_, ?_, fun p' cv hcv => ?_⟩
    · rw [upd_ne (ne_of_none hP nC), upd_same]
    · rw [lst]
      exact PySem.TriplesOk_snoc _ _ _ _ ht
    · rw [lst] at hcv
      rcases LamX.among_app _ ht hcv with z | z
      · obtain ⟨c0, e1, e2⟩ := ha p' cv z
        exact ⟨c0, e1, ext _ _ e2 LamX.codeO_ne⟩
      · exact ⟨c', z, upd_same⟩
  · obtain ⟨qs, a1, a2, a3⟩ := hT p hp
    refine ⟨qs, ?_, a2, fun p' cv hcv => ?_⟩
    · rw [upd_ne (ne_of_none a1 nC), upd_ne hb]
      exact a1
    · obtain ⟨c0, e1, e2⟩ := a3 p' cv hcv
      exact ⟨c0, e1, ext _ _ e2 LamX.codeO_ne⟩
theorem make_D {TT : List (Addr × Str)} {c P : Addr} {a : Str} {p0 p1 pos : Pos} {an : Option Expr} {i : Int} {j : Nat} {body : Expr} {scope : Scope} {E : Value → Shared → Prop} {Q : Value → Shared → Prop} (I : Inv X pins σ H s) (TB : LamX.TabB X.base X.mg c P) (hcode : X.env.code = .ref c)
    (hm : (P, lamQ X) ∈ TT) (hu : ∀ p ∈ TT, p.1 = P → p.2 = lamQ X) (hT : LamX.Tabs TT H) (hfree : ∀ y ∈ scope.names, y.2 = .free → ∃ c, X.env.cells.lookup y.1 = some c)
    (h : ∀ (f c' t : Addr) (v doc pm ctv : Value) (H1 : Hp) (s' : Shared), Inv X pins σ H1 s' → LamX.ExtN H H1 → LamX.Tabs TT H1 → s'.heap.get? f = some (lamD X (parD a p0 an i j p1) body scope c' t doc pm ctv) → s'.heap.get? t = some (PySem.W.kdv_tup [v]) →
      H1 f = none → H1 t = none → f ∉ frs X.stack → t ∉ frs X.stack → H1 c' = some (LamX.CodeO c' (lamQ X)) → Q (.ref f) s') :
    wpAny (model X.prog X.w) X.A (eval (.Lambda (parD a p0 an i j p1) body scope pos) X.env) Q E s := by
  obtain ⟨ps, hP, ht, ha⟩ := hT _ hm
  refine PySem.W.kdv_lam rfl rfl (PySem.W.kdv_all1 (wpAny_Constant_int (PySem.W.kdv_all0 ?_)))
  generalize hv : Value.int i _ = v
  have I1 : Inv X pins σ H { s with toks := s.toks + 1 } := I.tok _
  generalize { s with toks := s.toks + 1 } = s1 at I1
  rw [makeFunction_eq]
  refine wpAny_bind (wpAny_newTextTuple ?_)
  refine wpAny_bind (wpAny_pure (wpAny_bind (wpAny_pure ?_)))
  have n1 : H s1.heap.objs.size = none := I1.hok.fresh (Nat.le_refl _)
  have g1 : (s1.heap.push (PySem.W.kdv_tup [v])).get? s1.heap.objs.size = some (PySem.W.kdv_tup [v]) := Heap.get?_push_size _ rfl
  have z1 : (s1.heap.push (PySem.W.kdv_tup [v])).objs.size = s1.heap.objs.size + 1 := by rw [Heap.size_push]
  have fr1 := frs_lt I1 (Nat.le_refl _)
  have I2 : Inv X pins σ H { s1 with heap := s1.heap.push (PySem.W.kdv_tup [v]) } := I1.kept (t' := s1.toks) fun b o e => Heap.get?_push_of_some _ e
  generalize hs2 : s1.heap.push (PySem.W.kdv_tup [v]) = g at I2 g1 z1
  generalize hth : s1.heap.objs.size = th at n1 g1 z1 fr1
  have bP : g.BuiltinsAt X.mg P := TB.bm.keeps I2.bk
  have gP : g.get? P = some { cls := .none, data := .fields ps } := I2.hok P _ hP
  have nP : th ≠ P := fun z => by rw [z, hP] at n1; cases n1
  cases hc : codeAmong pos ps.toList with
  | none =>
    refine PySem.W.kdv_makeTail (mg := X.mg) (c := c) (P := P) (ps := ps) (closure_ok hfree) I2.ok.glob (I2.mod.glob.keeps I2.bk) hcode (TB.code.keeps I2.bk) gP ht hc TB.gP bP fun c' ctv doc h' tk hx hge hlt hrec htb => ?_
    obtain ⟨c2, oc, vs, t, e2, hoc, hd, hv2⟩ := hrec
    cases e2
    have hge' : g.objs.size ≤ c' := hge
    have nC : H c' = none := I2.hok.fresh hge'
    obtain ⟨T1, eN⟩ := tabs_more (pos := pos) hT hP ht hu nC ha
    have I3 := LamX.inv_table (t' := tk) (more := #[rawInt pos.line, rawInt pos.col, .ref c']) (h' := h'.push (lamD X (parD a p0 an i j p1) body scope c' th doc ((X.mg "__name__").getD .none) ctv)) I2 hP
      (fun b o hb e => Heap.get?_push_of_some _ (hx b o hb e)) (Heap.get?_push_of_some _ htb) hge' ⟨oc, vs, t, Heap.get?_push_of_some _ hoc, hd, hv2⟩
    have big : g.objs.size ≤ h'.objs.size := Nat.le_trans hge' (Nat.le_of_lt hlt)
    have ltP : P < g.objs.size := Heap.lt_size gP
    refine h h'.objs.size c' th v doc _ ctv _ _ I3 eN T1 (Heap.get?_push_size _ rfl) (Heap.get?_push_of_some _ (hx th _ nP g1)) ?_ ?_ (frs_lt I2 big) fr1 upd_same
    · rw [upd_ne (Nat.ne_of_gt hlt), upd_ne (Nat.ne_of_gt (Nat.lt_of_lt_of_le ltP big))]
      exact I2.hok.fresh big
    · rw [upd_ne (Nat.ne_of_lt (Nat.lt_of_lt_of_le (Heap.lt_size g1) hge')), upd_ne nP]
      exact n1
  | some cv =>
    obtain ⟨c', e, hco⟩ := ha pos cv hc
    subst e
    refine PySem.W.kdv_makeTailHit (mg := X.mg) (c := c) (P := P) (ps := ps) (closure_ok hfree) I2.ok.glob (I2.mod.glob.keeps I2.bk) hcode (TB.code.keeps I2.bk) gP ht hc bP fun ctv doc h' tk hx hsz => ?_
    have I3 : Inv X pins σ H { s1 with heap := h'.push (lamD X (parD a p0 an i j p1) body scope c' th doc ((X.mg "__name__").getD .none) ctv), toks := tk } := I2.kept fun b o e => Heap.get?_push_of_some _ (hx b o e)
    exact h h'.objs.size c' th v doc _ ctv H _ I3 (LamX.ExtN.refl H) hT (Heap.get?_push_size _ rfl) (Heap.get?_push_of_some _ (hx th _ g1)) (I2.hok.fresh hsz) n1 (frs_lt I2 hsz) fr1 hco
end
/-! ### it is called -/
/-- what its scope must be: its own name is none of the maker's -/
structure LamD (sc scope : Scope) (N : List Str) (a : Str) : Prop where
  kind : scope.kind = .function
  co : scope.isCoroutine = false
  gen : scope.isGenerator = false
  noc : ∀ y ∈ scope.names, y.2 ≠ .cell
  own : ∀ y ∈ scope.names, y.2 = .local → y.1 ∉ N
  fre : ∀ y ∈ scope.names, y.2 = .free → sc.names.lookup y.1 = some .cell ∨ sc.names.lookup y.1 = some .free
  par : scope.names.lookup a = some .local
def lamDB (sc scope : Scope) (N : List Str) (a : Str) : Bool :=
  (decide (scope.kind = .function) && (!scope.isCoroutine && !scope.isGenerator)) && (decide (scope.names.lookup a = some .local) && scope.names.all fun y => match y.2 with
    | .cell => false
    | .local => !decide (y.1 ∈ N)
    | .free => decide (sc.names.lookup y.1 = some .cell) || decide (sc.names.lookup y.1 = some .free)
    | _ => true)
theorem lamD_by {sc scope : Scope} {N : List Str} {a : Str} (h : lamDB sc scope N a = true) : LamD sc scope N a := by
  unfold lamDB at h
  simp only [Bool.and_eq_true, decide_eq_true_eq, Bool.not_eq_true'] at h
  obtain ⟨⟨h1, h2, h3⟩, h4, h5⟩ := h
  have h6 := fun y hy => List.all_eq_true.mp h5 y hy
  refine ⟨h1, h2, h3, fun y hy e => ?_, fun y hy e => ?_, fun y hy e => ?_, h4⟩
  · have := h6 y hy
    rw [e] at this
    cases this
  · have := h6 y hy
    rw [e] at this
    simpa using this
  · have := h6 y hy
    rw [e] at this
    simpa using this
theorem LamD.has {X : Cx} {scope : Scope} {N : List Str} {a : Str} (L : LamD X.env.scope scope N a) (ok : X.Ok) : ∀ y ∈ scope.names, y.2 = .free → ∃ c, X.env.cells.lookup y.1 = some c := fun y hy e => ok.has y.1 (L.fre y hy e)
section
variable {X : Cx} {pins : List (Addr × Obj)} {σ : St} {H HZ : Hp} {s s1 : Shared}
/-- the lambda's frame is entered -/
theorem enter_D {A : Around} {outer : List Env} {E : XK} {scope : Scope} {f c' : Addr} {g : Heap} {tk : Nat} {m : Str → Option Value} {a : Str} (I : Inv X pins σ H s) (L : LamD X.env.scope scope X.N a) (e0 : Env0 X.prog X.w X.K X.mg X.base A outer s1 HZ) (calm : A.handled = none)
    (un : Un (frs X.stack) [] H HZ s.heap s1.heap) (ns : g.Ns s1.heap.objs.size m) (kp : ∀ b o, s1.heap.get? b = some o → g.get? b = some o) :
    Inv (LamX.lamCx X A outer s1 HZ E scope f c') [] σ HZ { s1 with heap := g, toks := tk } := by
  have free := L.has I.ok
  -- the cells are the maker's
  have theirs : ∀ y c, (cloFrom X.env.cells scope.names []).lookup y = some c → X.env.cells.lookup y = some c := fun y c e => by
    rcases cloFrom_mem (PySem.mem_of_lookup e) with z | ⟨z1, z2⟩
    · cases z
    · obtain ⟨c1, hc⟩ := free _ z1 rfl
      have hc' : X.env.cells.lookup y = some c1 := hc
      rw [z2, hc']
      rfl
  have mine : ∀ y, scope.names.lookup y = some .free → ∃ c, (cloFrom X.env.cells scope.names []).lookup y = some c := fun y e => mem_lookup (cloFrom_has (cells := X.env.cells) (acc := []) (PySem.mem_of_lookup e))
  have stays : ∀ (c : Addr) (v : Option Value), H c = none → s.heap.IsCell c v → g.IsCell c v := fun c v n ⟨o, ho, hd⟩ => by
    obtain ⟨sl, q⟩ := un.any ho n (by simp)
    exact ⟨_, kp _ _ q, hd⟩
  have no : ∀ b : Addr, b ∈ (LamX.lamCx X A outer s1 HZ E scope f c').ex → False := fun b z => by cases (show b ∈ ([] : List Addr) from z)
  have one : ∀ y z c, (cloFrom X.env.cells scope.names []).lookup y = some c → (cloFrom X.env.cells scope.names []).lookup z = some c → y = z := fun y z c e1 e2 => I.ok.inj y z c (theirs y c e1) (theirs z c e2)
  have cells : ∀ y, (scope.names.lookup y = some .cell ∨ scope.names.lookup y = some .free) → ∃ c, (cloFrom X.env.cells scope.names []).lookup y = some c := fun y hy => by
    rcases hy with z | z
    · exact absurd rfl (L.noc _ (PySem.mem_of_lookup z))
    · exact mine y z
  have ok : (LamX.lamCx X A outer s1 HZ E scope f c').Ok := ⟨e0.mod, L.kind, rfl, rfl, Nat.le_refl _, one, cells, (fun y c z _ => by cases (show false = true from z)), fun _ => calm, Around.frames_deeper e0.frames, .inr ⟨rfl, rfl⟩,
    (fun b z => (no b z).elim), e0.bs, e0.bsz, fun b _ _ z => no b z, (fun b z => (no b z).elim), e0.funs, e0.frf⟩
  refine ⟨ok, rfl, e0.bare, Un.kept kp, ⟨m, ns, fun i y v e1 e2 vis => ?_⟩, fun y c e => ?_, e0.hok.fresh (Nat.le_refl _), fun y c e => ?_, fun q hq => ?_, e0.hok.kept kp, I.len⟩
  · have vis' : Vis scope y := vis
    have e1' : X.N[i]? = some y := e1
    rcases vis' with k | k | k
    · exact absurd (List.mem_of_getElem? e1') (L.own _ (PySem.mem_of_lookup k) rfl)
    · exact absurd rfl (L.noc _ (PySem.mem_of_lookup k))
    · obtain ⟨m0, _, look⟩ := I.loc
      have up := L.fre _ (PySem.mem_of_lookup k) rfl
      obtain ⟨u, r, q⟩ := look i y v e1' e2 (up.elim (fun z => .inr (.inl z)) fun z => .inr (.inr z))
      obtain ⟨c2, h2⟩ := mine y k
      have c1 := theirs y c2 h2
      refine ⟨u, r, .inr ⟨.inr k, c2, h2, ?_⟩⟩
      rcases q with ⟨l, _⟩ | ⟨_, c3, e3, z⟩
      · have l' : X.env.scope.names.lookup y = some .local := l
        rcases up with z | z <;> (have z' : X.env.scope.names.lookup y = _ := z; rw [z'] at l'; cases l')
      · rw [c1] at e3
        cases e3
        exact stays _ _ (I.freeC y _ c1) z
  · obtain ⟨u, z⟩ := I.cell y c (theirs y c e)
    exact ⟨u, stays _ _ (I.freeC y c (theirs y c e)) z⟩
  · obtain ⟨u, o, ho, _⟩ := I.cell y c (theirs y c e)
    exact un.free c o ho (I.freeC y c (theirs y c e)) (by simp)
  · cases (show q ∈ ([] : List (Addr × Obj)) from hq)
end
section
variable {X : Cx} {pins : List (Addr × Obj)} {σ : St} {H : Hp} {s : Shared}
/-- it is called, in the def that got it -/
theorem ask_D {Eg : XK} {Ng : List Str} {qg : Str} {sg : Scope} {g f c' t : Addr} {cdg v doc pm ctv : Value} {la : Str} {p0 lp1 : Pos} {an : Option Expr} {li : Int} {lj : Nat} {body : Expr} {scope : Scope} {k i : Nat} {a : Str} {pn : List (Addr × Obj)} {xe : Value → Shared → Prop} {W : WX} {tb : XK → TE} {p1 p2 : Pos}
    (hg0 : X.A.guards = some []) (I : Inv X pins σ H s) (L : LamD X.env.scope scope X.N la) (hf : s.heap.get? f = some (lamD X (parD la p0 an li lj lp1) body scope c' t doc pm ctv)) (ht0 : s.heap.get? t = some (PySem.W.kdv_tup [v])) (hfn : H f = none) (htn : H t = none) (hfr : f ∉ frs X.stack) (htr : t ∉ frs X.stack)
    (tk : Takes ((catX X Ng qg sg g cdg s H Eg).tr pn xe) W) (hr : Room (k + 1) (X.A.deeper (envOfC qg sg s.heap.objs.size g cdg)))
    (hbody : ∀ (E : XK) (A : Around) (outer : List Env) (s : Shared) (H : Hp), A.guards = some [] → Room k (A.deeper (LamX.lamEnv X scope s.heap.objs.size f c')) → PE (LamX.lamCx X A outer s H E scope f c') body (tb E))
    (hN : Ng[i]? = some a) (hv : Vis sg a) (hd : (a == ("__debug__" : Str)) = false) (hcd : (a == ("__classdict__" : Str)) = false) :
    PE ((catX X Ng qg sg g cdg s H Eg).tr pn xe) (.Call (.Name a p1) [] [] p2) (fun σZ HZ Q => σZ[i]? = some (some (.ref f)) ∧ HZ c' = some (LamX.CodeO c' (lamQ X)) ∧ tb (WE W σZ) σ HZ Q) := by
  refine ⟨fun pinsZ sZ σZ HZ Q IZ ⟨hs, hc, ht⟩ => wpAny_Call_Name_kw (thn ((pe_var (pos := p1) (i := i) hN hv hd hcd).run pinsZ sZ σZ HZ (fun v H1 => v = .ref f ∧ H1 = HZ) IZ ⟨_, hs, rfl, rfl⟩) fun u s1 ⟨v1, H1, I1, r1, ev, eH⟩ => ?_)⟩
  subst ev eH
  cases r1
  have noex : ∀ b : Addr, b ∉ ([] : List Addr) := fun b z => by cases z
  have of1 := I1.base.keep f _ hf hfn hfr (noex f)
  have ot1 := I1.base.keep t _ ht0 htn htr (noex t)
  have un : Un (frs X.stack) [] H H1 s.heap s1.heap := I1.base
  refine PySem.W.callWith_F0 ⟨_, _, _, _, of1⟩ (wpAny_call ?_)
  obtain ⟨⟨oc, vs, tq, g1, g2, g3⟩, _, _⟩ := I1.hok c' _ hc
  have run : codeAny (model X.prog X.w) (X.A.deeper (envOfC qg sg s.heap.objs.size g cdg)) (.call (.ref f) ⟨[], []⟩) (CR (L2.CX X.prog X.w) (envOfC qg sg s.heap.objs.size g cdg :: X.stack) X.prog X.w H1 s1 Q (WE W σZ)) s1 := by
    refine PySem.W.kla_callFunE hr.depth of1 rfl L.co L.gen rfl ⟨c', oc, vs, tq, rfl, g1, g2, g3⟩ (bind_D rfl rfl ot1 rfl ?_)
    refine wpAny_newFunctionEnv L.noc (fun y hy => ?_) (fun h1 hns hsb => ⟨I1.nolimit.fresh _ hsb, ?_⟩) L.kind
    · rw [List.mem_singleton.mp hy]
      exact L.par
    · have kp : ∀ b o, s1.heap.get? b = some o → h1.get? b = some o := fun b o e => hsb.extBut b o (Nat.ne_of_lt (Heap.lt_size e)) (Heap.get?_push_of_some _ e)
      have J : Inv (LamX.lamCx X (X.A.deeper (envOfC qg sg s.heap.objs.size g cdg)) (envOfC qg sg s.heap.objs.size g cdg :: X.stack) s1 H1 (WE W σZ) scope f c') [] σ H1 { s1 with heap := h1, toks := s1.toks + [(la, v)].length } := enter_D I L I1.env0 hr.hd un hns kp
      refine PySem.W.kla_codeExpr (wpAny_mono ((hbody (WE W σZ) (X.A.deeper (envOfC qg sg s.heap.objs.size g cdg)) (envOfC qg sg s.heap.objs.size g cdg :: X.stack) s1 H1 hg0 (hr.deeper _)).run [] _ _ H1 Q J ht) (fun v s' q => ?_) fun _ _ q => q)
      exact let ⟨w', H', J', rv, q⟩ := q; ⟨w', H', J'.os, J'.bare, J'.base, J'.hok, rv, q⟩
  refine codeAny_mono run fun r s' q => ?_
  cases r with
  | error e => exact passAt tk σZ pinsZ H1 s1 e s' I1 q
  | ok fl =>
    cases fl with
    | ret u => exact I1.after q
    | next => exact False.elim q
    | brk => exact False.elim q
    | cont => exact False.elim q
end
section
variable {Γ : Glob} {X : Cx} {W : WX} {cx : Cxt} {C : Cv} {k : Nat}
/-- its parameter, if it is one with a default -/
def oneD : Arguments → Option Str
  | ⟨[], [⟨a, _, _⟩], none, [], [], none, [.Constant (.int _) _ _]⟩ => some a
  | _ => none
theorem oneD_par {params : Arguments} {a : Str} (h : oneD params = some a) : ∃ p0 an i j p1, params = parD a p0 an i j p1 := by
  unfold oneD at h
  split at h
  · cases h
    exact ⟨_, _, _, _, _, rfl⟩
  · cases h
theorem s_lamD (S : Sx Γ C k X W) {g : Nat} {q z la : Str} {params : Arguments} {body : Expr} {scope : Scope} {x : E} {p lp pos : Pos} (hz : C.glo z = some (.ctc g)) (hq : C.lm = some q) (hs : lamDB C.sc scope C.N la = true) (hp : oneD params = some la)
    (F : CatOk Γ X.prog X.w X.mg X.base k (cx.lf g) (Γ.cad g))
    (hb : ∀ (E : XK) (A : Around) (outer : List Env) (s : Shared) (H : Hp) (f c' : Addr), Sx Γ (C.lam scope) k (LamX.lamCx X A outer s H E scope f c') (fun c d _ H => E c d H) → PE (LamX.lamCx X A outer s H E scope f c') body (rdE Γ (fun c d _ H => E c d H) (ev cx x))) :
    PE X (.Call (.Name z p) [.Lambda params body scope lp] [] pos) (rdE Γ W (ev cx (.lam g x))) := by
  obtain ⟨g1, ⟨g2, g2k⟩, g3, _⟩ := S.glo hz
  obtain ⟨hr, hnm, c, P, hcode, TB, hmT, hu⟩ := S.lmk q hq
  subst hnm
  have L : LamD X.env.scope scope X.N la := by rw [S.sc, S.hN]; exact lamD_by hs
  obtain ⟨oc, od, name, qual, prs, bg, sg, dV, kV, doc, pmv, cdv, ct, an, osl, N, a, lk, hcd, hbd, Sg, hN0, hva, hda, hca, run⟩ := F
  obtain ⟨p0, an0, i0, j0, p1, rfl⟩ := oneD_par hp
  refine ⟨fun pins s σ H Q I h => ?_⟩
  obtain ⟨w, ρ, μ, ds, gd, rv, pp⟩ := h
  dsimp only at pp
  rw [ev_lam] at pp
  refine wpAny_Call_Name_kw (ld_glob I g1 g2 (PySem.W.callWith_K (h₀ := X.base) I.ok.mod.kin g2k ?_ (by rfl) (by rfl)) g3)
  show wpAny _ _ (spliced ((false, eval (.Lambda (parD la p0 an0 i0 j0 p1) body scope lp) X.env) :: backTo pos (starEach [] X.env))) _ _ s
  refine Calls.spliced_cons (make_D I TB hcode hmT hu gd.ok.tab (L.has I.ok) fun f c' t v doc pm' ctv H1 s' I1 eN T1 hf ht hfn htn hfr htr hco => Calls.spliced_nil ⟨I1.kIn, ?_⟩)
  have ok1 : OkW Γ w μ H1 := gd.ok.coded eN T1
  obtain ⟨ok2, le2⟩ := ok1.known hco rfl (fun ps z => by cases z)
  rw [S.hK] at lk hcd hbd
  have rc : codeAny (model X.prog X.w) X.A (.call (.ref (Γ.cad g)) ⟨[.ref f], []⟩) (CR (L2.CX X.prog X.w) X.stack X.prog X.w H1 s' Q (WE W σ)) s' := by
    refine LamX.run_ofS (N := N) (ps := [a]) (us := [.ref f]) (vs := [.ref f]) lk hcd Sg hr I1.env0 (hbd s' [.ref f] I1.kIn rfl) (.cons rfl .nil) rfl fun hr' => ?_
    have := run X.A X.stack s' H1 (WE W σ) f c' (lamQ X) (fun E' HZ Q' => rdE Γ (fun c d _ H => E' c d H) (ev cx x) σ HZ Q') (ev cx x ρ μ) μ.length _ Q S.gd (hr'.mono (Nat.le_succ k)) ?_ hco ?_ (Nat.le_of_eq ok2.len) (postE.mono le2 pp.at)
    · rw [S.hK] at this
      exact this
    · intro W' pn xe p1 p2 tk
      rw [S.hK] at tk ⊢
      exact ask_D (tb := fun E' => rdE Γ (fun c d _ H => E' c d H) (ev cx x)) S.gd I1 L hf ht hfn htn hfr htr tk hr' (fun E A outer s H hg0 hr2 => hb E A outer s H f c' (S.lam E A outer s H hg0 hr2)) hN0 hva hda hca
    · exact fun E' Q' h => ⟨_, ρ, μ, [], ⟨gd.st.mono le2, ok2⟩, trivial, h.sig⟩
  refine wpAny_call (codeAny_mono rc fun r s2 hq => ?_)
  cases r with
  | error e => exact S.pa σ pins H1 s' e s2 I1 hq
  | ok fl =>
    cases fl with
    | ret u => exact I1.after hq
    | next => exact False.elim hq
    | brk => exact False.elim hq
    | cont => exact False.elim hq
end
end KP
end

section
set_option maxRecDepth 100000
set_option maxHeartbeats 4000000
/-! KPF: a part of a thing, of an error. -/
namespace KP
open PySem PySem.Spec PyProof.Rows L2
section
variable {Γ : Glob} {X : Cx} {W : WX} {cx : Cxt} {C : Cv} {k : Nat} {w : Wd} {H : Hp} {μ : Mu}
theorem lk_look {Φ : Hp} {f : Nat} {d : D} (hi : ∀ n, Γ.nm n = Γ.nm f → n = f) : ∀ {fs : List (Str × V)} {ns : List Nat} {xs : List D}, fs.map (·.1) = ns.map Γ.nm → Rps Γ Φ (fs.map (·.2)) xs → lk ns xs f = some d → ∃ v, fs.lookup (Γ.nm f) = some v ∧ Rp Γ Φ v d
  | [], ns, xs, _, r, h => by
    cases r
    cases ns <;> cases h
  | (x, v) :: fs, [], xs, e, r, h => by cases e
  | (x, v) :: fs, n :: ns, xs, e, r, h => by
    rw [List.map_cons, List.map_cons] at e
    injection e with e1 e2
    have e1 : x = Γ.nm n := e1
    subst e1
    cases r with
    | cons r1 r2 =>
      unfold lk at h
      by_cases hn : n = f
      · subst hn
        rw [if_pos rfl] at h
        cases h
        exact ⟨v, by simp, r1⟩
      · rw [if_neg hn] at h
        obtain ⟨u, h1, h2⟩ := lk_look hi e2 r2 h
        have : (Γ.nm f == Γ.nm n) = false := by
          rw [beq_eq_false_iff_ne]
          exact fun z => hn (hi n z.symm)
        exact ⟨u, by rw [List.lookup_cons, this]; exact h1, h2⟩
theorem hasF_ok {b : Bool} {c f : Nat} (h : hasF cx b c f = true) : ∃ i, cx.T.cl c = some i ∧ f ∈ i.flds ∧ (b = true → i.kind = 2) ∧ (b = false → i.kind < 2) := by
  unfold hasF at h
  split at h
  · rename_i i hi
    rw [Bool.and_eq_true, decide_eq_true_eq] at h
    refine ⟨i, hi, h.1, fun e => ?_, fun e => ?_⟩
    · subst e; exact of_decide_eq_true h.2
    · subst e; exact of_decide_eq_true h.2
  · cases h
/-- e.f -/
theorem s_fld (S : Sx Γ C k X W) (Q0 : ClOk Γ cx.T) {e : Expr} {x : E} {f : Str} {n : Nat} {pos : Pos} (hf : Γ.nm n = f) (hb : baseOk e = true) (hx : x.isSt = false) (he : PE X e (rdE Γ W (ev cx x))) : PE X (.Attribute e f pos) (rdE Γ W (ev cx (.fld x n))) := by
  subst hf
  refine ⟨fun pins s σ H Q I h => attr_of (base_eq hb) (thn (he.run pins s σ H (fun v H1 => ∃ w μ d a, OkW Γ w μ H1 ∧ Rv Γ w v d ∧ fldO cx n d μ = some a ∧ ∀ u, Rp Γ w.Φ u a → Q u H1) I ?_) fun u s1 ⟨v, H1, I1, rx, w, μ, d, a, ok, r, e, q⟩ => ?_)⟩
  · obtain ⟨w, ρ, μ, ds, g, rv, p⟩ := h
    refine ⟨w, ρ, μ, [], g, trivial, ?_⟩
    dsimp only at p ⊢
    rw [ev_fld] at p
    generalize ev cx x ρ μ = r at p ⊢
    cases r with
    | ok d μ1 =>
      intro w1 v H1 le ok rv1
      rw [R.ok_bind] at p
      unfold fldD at p
      cases e : fldO cx n d μ1 with
      | none => rw [e] at p; exact p.elim
      | some a =>
        rw [e] at p
        exact ⟨w1, μ1, d, a, ok, rv1, e, fun u ru => p w1 u H1 le ok (.val ru)⟩
    | exc c ns xs μ1 => exact p
    | stuck => exact p
  · have ins : ∀ {c : Nat} {b : Addr} {dx : Addr} {fs : List (Str × V)} {ns : List Nat} {xs : List D}, H1 b = some (.ins (Γ.cls c) dx fs) → fs.map (·.1) = ns.map Γ.nm → Rps Γ w.Φ (fs.map (·.2)) xs → (if hasF cx false c n then lk ns xs n else none) = some a → v = .ref b →
        wpAny (model X.prog X.w) X.A (getAttr u (Γ.nm n) true) (EP X pins σ Q) X.xe s1 := by
      intro c b dx fs ns xs h1 h2 h3 h4 h5
      split at h4
      · rename_i hh
        obtain ⟨i, hi, hm, _, hk⟩ := hasF_ok hh
        have K0 := Q0.fdk c i hi (Nat.le_of_lt (hk rfl))
        obtain ⟨z, l, rz⟩ := lk_look (K0.inj n hm) h2 h3 h4
        have O := Q0.obj c i hi (hk rfl)
        have hK := S.hK
        subst h5
        cases rx
        refine getattr_ok I1 h1 (by rw [← hK]; exact O.cls) (by rw [← hK]; exact K0.nof n hm) l fun u' s2 I2 ru => ⟨z, H1, I2, ru, q z rz⟩
      · cases h4
    rcases r with ⟨m, b, rfl, e2, e3⟩ | ⟨_, r⟩
    · unfold fldO at e
      dsimp only at e
      split at e
      · rename_i c ns xs hm
        obtain ⟨⟨dx, fs, h1, h2, h3⟩, _⟩ := ok.cel m b _ e2 hm
        exact ins h1 h2 h3 e e3
      · cases e
    · cases r with
      | obj h1 h2 h3 => exact ins (ok.frz _ _ h1) h2 h3 e rfl
      | exn h1 hx h2 h3 =>
        have e' : (if hasF cx true _ n then lk _ _ n else none) = some a := e
        split at e'
        · rename_i hh
          obtain ⟨i, hi, hm, hk, _⟩ := hasF_ok hh
          have K0 := Q0.fdk _ i hi (Nat.le_of_eq (hk rfl))
          have O := (Q0.exk _ i hi (hk rfl)).k
          obtain ⟨z, l, rz⟩ := lk_look (K0.inj n hm) h2 h3 e'
          obtain ⟨ox, od, J, hl⟩ := exc_at I1 (ok.frz _ _ h1) (ok.frz _ _ hx)
          obtain ⟨u', ru, hu⟩ := hl _ _ l
          cases rx
          have hK := S.hK
          have nof := K0.nof n hm
          rw [hK] at O nof
          exact HandSPX.exc_get I1.kIn J O.ga O.gt O.su (PySem.W.findObj_own O.hd nof rfl hu) (handed_of ru) ⟨z, H1, I1.tok _, ru, q z rz⟩
        · cases e'
      | _ => cases e
end
end KP
end

section
set_option maxRecDepth 100000
set_option maxHeartbeats 4000000
/-! KPD: {k: v, ..}, the keys written out. -/
namespace KP
open PySem PySem.Spec PyProof.Rows L2
section
variable {Γ : Glob} {X : Cx} {W : WX} {cx : Cxt} {C : Cv} {k : Nat} {w : Wd} {H : Hp} {μ : Mu} {pos : Pos}
def keyE : Option Expr → Key → Bool
  | some (.Constant (.int i) _ _), .inl j => decide (i = j)
  | some (.Constant (.str x) _ _), .inr y => decide (x = y)
  | _, _ => false
def dctTr (Γ : Glob) (W : WX) (cx : Cxt) : List Key → List E → List (TE × TE)
  | k :: ks, x :: xs => (tC (kV k), rdE Γ W (ev cx x)) :: dctTr Γ W cx ks xs
  | _, _ => []
theorem pe_key {e : Expr} {key : Key} (h : keyE (some e) key = true) : PE X e (tC (kV key)) := by
  unfold keyE at h
  split at h
  · rename_i e1
    cases e1
    cases of_decide_eq_true h
    exact pe_int
  · rename_i e1
    cases e1
    cases of_decide_eq_true h
    exact pe_str
  · cases h
theorem pairs_of : ∀ {ks : List Key} {xs : List E} {σ : St} {H : Hp} {R0 : List V → Hp → Prop} {Q : List (V × V) → Hp → Prop}, ks.length = xs.length → (xs.all fun x => !x.isSt) = true → rdA Γ W (evs cx xs) σ H R0 →
    (∀ vs H2, R0 vs H2 → Q ((ks.zip vs).map fun kv => (kV kv.1, kv.2)) H2) → tPairs (dctTr Γ W cx ks xs) σ H Q
  | [], [], σ, H, R0, Q, _, _, h, hq => by
    obtain ⟨w, ρ, μ, ds, g, rv, p⟩ := h
    exact hq [] H (p w [] H w.refl g.ok trivial)
  | [], _ :: _, _, _, _, _, h, _, _, _ => by cases h
  | _ :: _, [], _, _, _, _, h, _, _, _ => by cases h
  | key :: ks, x :: xs, σ, H, R0, Q, hl, hs, h, hq => by
    rw [List.all_cons, Bool.and_eq_true] at hs
    have hx : x.isSt = false := by simpa using hs.1
    have h1 : RDA Γ W [] (fun ds ρ μ => (ev cx x ρ μ).bind fun d μ => (evs cx xs ρ μ).bind fun es μ => .ok (ds ++ [d] ++ es) μ) σ H R0 := by
      obtain ⟨w, ρ, μ, ds, g, rv, p⟩ := h
      refine ⟨w, ρ, μ, [], g, trivial, ?_⟩
      simp only [evs_cons hx] at p
      exact p
    show rdE Γ W (ev cx x) σ H _
    refine rdE.mono (RDA.eval (f := fun ds ρ μ => (evs cx xs ρ μ).bind fun es μ => .ok (ds ++ es) μ) h1) fun v H1 h2 => ?_
    have h3 := RDA.evals (f := fun ds (_ : Rho) μ => .ok ds μ) h2
    exact pairs_of (R0 := fun us H2 => R0 (v :: us) H2) (by simpa using hl) hs.2 (rdA.mono h3 fun us H2 h5 => by
      obtain ⟨w, ρ, μ, ds, g, rv, p⟩ := h5
      exact p w _ H2 w.refl g.ok rv) fun vs H2 h6 => hq (v :: vs) H2 h6
/-- the hidden thing is let go -/
theorem OkW.drop {p : Addr} {o : HO} {ps : List (Addr × HO)} {Φ : Hp} {θ : List Addr} (ok : OkW Γ ⟨Φ, θ, (p, o) :: ps⟩ μ H) : OkW Γ ⟨Φ, θ, ps⟩ μ H where
  frz := ok.frz
  len := ok.len
  nd := ok.nd
  cel := fun n a m e1 e2 => by
    obtain ⟨h1, h2⟩ := ok.cel n a m e1 e2
    exact ⟨MOk.hideR (w := ⟨Φ, θ, ps⟩) (p := p) (o := o) h1, h2⟩
  pro := fun q hq => ok.pro q (List.mem_cons_of_mem _ hq)
  ntb := ok.ntb
  psf := fun q hq => ok.psf q (List.mem_cons_of_mem _ hq)
  tab := ok.tab
theorem mergeK_id : ∀ {more kvs : List (Key × V)}, (kvs.map (·.1) ++ more.map (·.1)).Nodup → mergeK kvs more = kvs ++ more
  | [], kvs, _ => by simp [mergeK]
  | (k, v) :: more, kvs, h => by
    have hk : k ∉ kvs.map (·.1) := fun z => by
      rw [List.nodup_append] at h
      exact h.2.2 k z k (by simp) rfl
    have e : putK kvs k v = kvs ++ [(k, v)] := by
      unfold putK
      rw [if_neg]
      rw [List.any_eq_true]
      rintro ⟨q, hq, e⟩
      exact hk (List.mem_map.mpr ⟨q, hq, of_decide_eq_true e⟩)
    show mergeK (putK kvs k v) more = _
    rw [e, mergeK_id (by simpa using h)]
    simp
theorem zip_fst {α β : Type} : ∀ {a : List α} {b : List β}, a.length = b.length → (a.zip b).map (·.1) = a
  | [], [], _ => rfl
  | _ :: _, _ :: _, h => congrArg (_ :: ·) (zip_fst (by simpa using h))
  | [], _ :: _, h => by cases h
  | _ :: _, [], h => by cases h
theorem zip_snd {α β : Type} : ∀ {a : List α} {b : List β}, a.length = b.length → (a.zip b).map (·.2) = b
  | [], [], _ => rfl
  | _ :: _, _ :: _, h => congrArg (_ :: ·) (zip_snd (by simpa using h))
  | [], _ :: _, h => by cases h
  | _ :: _, [], h => by cases h
theorem disp_of {nw : Bool} {ks : List Key} {xs : List E} {σ : St} {H : Hp} {Q : VK} (hl : ks.length = xs.length) (h15 : ks.length ≤ 15) (hs : (xs.all fun x => !x.isSt) = true) (h : rdE Γ W (fun ρ μ => nwR nw (ev cx (.dct ks xs) ρ μ)) σ H Q) : tDisp (dctTr Γ W cx ks xs) σ H Q := by
  obtain ⟨w, ρ, μ, ds, g, rv, pp⟩ := h
  intro p hp
  dsimp only at pp
  rw [ev_dct] at pp
  have hpr : ∀ q ∈ w.pr, q.1 ≠ p := fun q hq => ne_of_none (g.ok.pro q hq).1 hp
  have ok0 : OkW Γ (w.hide p (.dK [])) μ (upd H p (.dK [])) := g.ok.hideNew hp
  refine pairs_of (R0 := fun vs H2 => vs.length = ks.length ∧ H2 p = some (.dK []) ∧ (ks.Nodup → Q (.ref p) (upd H2 p (.dK (ks.zip vs)))) ∧ ks.Nodup) hl hs ⟨w.hide p (.dK []), ρ, μ, [], ⟨g.st.monf Wd.lf_hide, ok0⟩, trivial, ?_⟩ fun vs H2 ⟨q1, q2, q3, q4⟩ => ?_
  · dsimp only
    cases e : evs cx xs ρ μ with
    | stuck => rw [e] at pp; cases nw <;> exact pp.elim
    | exc c ns us μ1 =>
      rw [e] at pp
      have pp' : postE Γ W σ w Q (.exc c ns us μ1) := by cases nw <;> exact pp
      intro w' H' dx le ok ex
      obtain ⟨Φ', θ', pr'⟩ := w'
      obtain ⟨l1, l2, l3⟩ := le
      have l3' : pr' = (p, .dK []) :: w.pr := l3
      subst l3'
      exact pp' ⟨Φ', θ', w.pr⟩ H' dx ⟨l1, l2, rfl⟩ ok.drop ex
    | ok es μ1 =>
      rw [e] at pp
      intro w' vs H' le ok rs
      obtain ⟨Φ', θ', pr'⟩ := w'
      obtain ⟨l1, l2, l3⟩ := le
      have l3' : pr' = (p, .dK []) :: w.pr := l3
      subst l3'
      have hel : es.length = xs.length := evs_len hs e
      have hvl : vs.length = ks.length := by rw [rs.len, hel, hl]
      have pp1 : postE Γ W σ w Q (nwR nw (mkDct ks es μ1)) := pp
      unfold mkDct at pp1
      by_cases hc : anyCell es = true
      · rw [if_pos hc] at pp1
        cases nw <;> exact pp1.elim
      · rw [if_neg hc] at pp1
        by_cases hn : ks.Nodup ∧ ks.length = es.length
        · rw [if_pos hn] at pp1
          refine ⟨hvl, (ok.pro (p, .dK []) List.mem_cons_self).1, fun hnd => ?_, hn.1⟩
          have ok2 : OkW Γ (Wd.hide ⟨Φ', θ', w.pr⟩ p (.dK (ks.zip vs))) μ1 (upd H' p (.dK (ks.zip vs))) := OkW.hideSet (w := ⟨Φ', θ', w.pr⟩) ok hpr
          have hR : Rps Γ Φ' vs es := Rps.of (Φ := Φ') (θ := θ') (ps := _) rs (by simpa using hc)
          have lw : w.le ⟨Φ', θ', w.pr⟩ := ⟨l1, l2, rfl⟩
          cases nw with
          | false =>
            obtain ⟨o3, l4, _⟩ := ok2.unhideF hpr
            refine pp1 _ (.ref p) _ (Wd.trans lw l4) o3 (.inr ⟨rfl, ?_⟩)
            have := Rp.dct (Γ := Γ) (Φ := upd Φ' p (.dK (ks.zip vs))) (a := p) (kvs := ks.zip vs) (xs := es) upd_same (by rw [zip_snd hvl.symm]; exact Rps.mono l4.1 _ _ hR)
            rw [zip_fst hvl.symm] at this
            exact this
          | true =>
            obtain ⟨o3, l4⟩ := ok2.unhideC (m := .dct ks es) hpr ⟨ks.zip vs, upd_same, zip_fst hvl.symm, by rw [zip_snd hvl.symm]; exact hR⟩
            have hlen : θ'.length = μ1.length := ok.len
            refine pp1 _ (.ref p) _ (Wd.trans lw l4) o3 (.inl ⟨μ1.length, p, rfl, ?_, rfl⟩)
            show (θ' ++ [p])[μ1.length]? = some p
            rw [← hlen, List.getElem?_append_right (Nat.le_refl _), Nat.sub_self]; rfl
        · rw [if_neg hn] at pp1
          cases nw <;> exact pp1.elim
  · refine ⟨q2, ks.zip vs, rfl, by rw [List.length_zip]; omega, ?_⟩
    rw [mergeK_id (by simpa [zip_fst q1.symm] using q4)]
    exact q3 q4
/-- the pairs, each checked -/
def ckPairs (f : Expr → E → Bool) : List (Option Expr) → List Expr → List Key → List E → Bool
  | [], [], [], [] => true
  | key :: keys, v :: vs, k :: ks, x :: xs => keyE key k && (f v x && ckPairs f keys vs ks xs)
  | _, _, _, _ => false
theorem pps_of {f : Expr → E → Bool} (hf : ∀ v x, f v x = true → PE X v (rdE Γ W (ev cx x))) : ∀ {keys : List (Option Expr)} {vs : List Expr} {ks : List Key} {xs : List E}, ckPairs f keys vs ks xs = true → PPs X pos keys vs (dctTr Γ W cx ks xs) ∧ keys.all (·.isSome) = true ∧ keys.length = vs.length ∧ keys.length = ks.length ∧ ks.length = xs.length := by
  intro keys
  induction keys with
  | nil =>
    intro vs ks xs h
    cases vs <;> cases ks <;> cases xs <;> first | (cases h; done) | exact ⟨pps_nil, rfl, rfl, rfl, rfl⟩
  | cons key keys ih =>
    intro vs ks xs h
    cases vs <;> cases ks <;> cases xs <;> first | (cases h; done) | skip
    rename_i v vs k ks x xs
    unfold ckPairs at h
    rw [Bool.and_eq_true, Bool.and_eq_true] at h
    obtain ⟨h1, h2, h3⟩ := h
    obtain ⟨i1, i2, i3, i4, i5⟩ := ih h3
    cases key with
    | none => cases h1
    | some e => exact ⟨pps_cons (pe_key h1) (hf v x h2) i1, by simpa using i2, by simpa using i3, by simpa using i4, by simpa using i5⟩
theorem s_dct {nw : Bool} {f : Expr → E → Bool} (hf : ∀ v x, f v x = true → PE X v (rdE Γ W (ev cx x))) {keys : List (Option Expr)} {vs : List Expr} {ks : List Key} {xs : List E} (h : ckPairs f keys vs ks xs = true) (h0 : keys ≠ []) (h15 : keys.length ≤ 15) (hs : (xs.all fun x => !x.isSt) = true) :
    PE X (.Dict keys vs pos) (rdE Γ W fun ρ μ => nwR nw (ev cx (.dct ks xs) ρ μ)) := by
  obtain ⟨i1, i2, i3, i4, i5⟩ := pps_of (pos := pos) hf h
  exact ⟨fun pins s σ H Q I q => (pe_disp i1 i2 i3 h0 h15).run pins s σ H Q I (disp_of i5 (by omega) hs q)⟩
/-- {} -/
theorem s_dct0 {nw : Bool} : PE X (.Dict [] [] pos) (rdE Γ W fun ρ μ => nwR nw (ev cx (.dct [] []) ρ μ)) := by
  refine ⟨fun pins s σ H Q I hh => pe_dnewK.run pins s σ H Q I ?_⟩
  obtain ⟨w, ρ, μ, ds, g, rv, p⟩ := hh
  have e : ev cx (.dct [] []) ρ μ = .ok (.dct [] []) μ := by
    rw [ev_dct]
    rfl
  have p' : postE Γ W σ w Q (nwR nw (.ok (.dct [] []) μ)) := by
    rw [← e]
    exact p
  intro q hq
  cases nw with
  | false => exact (postE.new p' g.ok fun q hq => Rp.dct (kvs := []) upd_same .nil) q hq
  | true => exact postE.newCel (m := .dct [] []) p' g.ok (fun q hq => ⟨[], upd_same, rfl, .nil⟩) q hq
end
end KP
end

section
set_option maxRecDepth 100000
set_option maxHeartbeats 4000000
/-! KPB: an error that leaves a comprehension: out of a call in its element. -/
namespace KP
open PySem PySem.Spec PyProof.Rows L2
/-- the block of a comprehension whose element's errors are heard by xe -/
abbrev blkE (X : Cx) (s : Shared) (H : Hp) (scope : Scope) (ce : Env) (fp : List Addr) (xe : Value → Shared → Prop) : Cx := { X.blk s H scope ce fp with xe := xe }
theorem inv_blkE {X : Cx} {s0 : Shared} {H0 : Hp} {scope : Scope} {ce : Env} {fp : List Addr} {xe : Value → Shared → Prop} {pins : List (Addr × Obj)} {σ : St} {H : Hp} {s : Shared} (I : Inv (X.blk s0 H0 scope ce fp) pins σ H s) : Inv (blkE X s0 H0 scope ce fp xe) pins σ H s :=
  ⟨⟨I.ok.mod, I.ok.kind, I.ok.glob, I.ok.blt, I.ok.above, I.ok.inj, I.ok.has, I.ok.cab, I.ok.hd, I.ok.frames, I.ok.stk, I.ok.exf, I.ok.bs, I.ok.bsz, I.ok.noex, I.ok.exfs, I.ok.funs, I.ok.frf⟩, I.os, I.bare, I.base, I.loc, I.cell, I.free, I.freeC, I.pin, I.hok, I.len⟩
theorem inv_blkN {X : Cx} {s0 : Shared} {H0 : Hp} {scope : Scope} {ce : Env} {fp : List Addr} {xe : Value → Shared → Prop} {pins : List (Addr × Obj)} {σ : St} {H : Hp} {s : Shared} (I : Inv (blkE X s0 H0 scope ce fp xe) pins σ H s) : Inv (X.blk s0 H0 scope ce fp) pins σ H s :=
  ⟨⟨I.ok.mod, I.ok.kind, I.ok.glob, I.ok.blt, I.ok.above, I.ok.inj, I.ok.has, I.ok.cab, I.ok.hd, I.ok.frames, I.ok.stk, I.ok.exf, I.ok.bs, I.ok.bsz, I.ok.noex, I.ok.exfs, I.ok.funs, I.ok.frf⟩, I.os, I.bare, I.base, I.loc, I.cell, I.free, I.freeC, I.pin, I.hok, I.len⟩
section
variable {X : Cx} {pins pinsB : List (Addr × Obj)} {σ σ' : St} {H3 H : Hp} {s3 s s' : Shared} {scope : Scope} {ce : Env} {fp : List Addr} {W : WX} {E : XK}
/-- a call's error, in the block: the block is let go, then the def hears it -/
theorem comp_air {u : Value} (I3 : Inv X pins σ H3 s3) (Ib : Inv (X.blk s3 H3 scope ce fp) pinsB σ' H s) (c : L2.CX X.prog X.w X.stack H s E u s')
    (hE : ∀ cls d H', E cls d H' → W cls d σ H') (tk : Takes X W) (hs : X.stack = X.env :: X.outer) (hf : X.env.frame = some X.env.locals) (hcf : ce.frame = X.env.frame)
    (hfp : ∀ b ∈ fp, FpOk X pins H3 b) (hC : s3.heap.objs.size ≤ ce.locals) :
    notedBy (model X.prog X.w) X.A ce (CompFails (model X.prog X.w) X.A X.xe ce) u s' := by
  obtain ⟨a, B, H', cls, d, rfl, fl, hok, ub, na, os, ag, hE1⟩ := c
  have base : Un (frs X.stack) fp H3 H s3.heap s.heap := Ib.base
  have cFree : H ce.locals = none := Ib.free
  have cFr : ce.locals ∉ frs X.stack := frs_lt I3 hC
  obtain ⟨m, hns, _⟩ := Ib.loc
  have hns : s.heap.Ns ce.locals m := hns
  obtain ⟨o, es, ep, ho, hod, hrest⟩ := hns
  have cB : B.get? ce.locals = some o := ub.keep _ o ho cFree cFr
  have cFree' : H' ce.locals = none := ub.free _ o ho cFree
  have st : B.StaysIn s'.heap := fl.1
  have hfr : X.A.frames = some (X.env :: X.outer) := by rw [I3.ok.frames, hs]
  have fpC := I3.fpOk hC cFree'
  -- the state without the error
  obtain ⟨G, g1, g2⟩ := restrict s'.heap fun b => (B.get? b).isSome || decide (b ∈ frs X.stack)
  have gB : ∀ b q, B.get? b = some q → G.get? b = some q := fun b q e => (g1 b (by simp [e])).trans (st b q e)
  have gF : ∀ b, b ∈ frs X.stack → G.get? b = s'.heap.get? b := fun b hb => g1 b (by simp [hb])
  have og : ∀ b q, G.get? b = some q → s'.heap.get? b = some q ∧ (b ∉ frs X.stack → B.get? b = some q) := fun b q e => by
    cases hq : ((B.get? b).isSome || decide (b ∈ frs X.stack)) with
    | false => rw [g2 b hq] at e; cases e
    | true =>
      rw [g1 b hq] at e
      refine ⟨e, fun nf => ?_⟩
      have : (B.get? b).isSome = true := by simpa [nf] using hq
      obtain ⟨o', q'⟩ := Option.isSome_iff_exists.mp this
      have := st b o' q'
      rw [e] at this
      cases this
      exact q'
  have un : Un (frs X.stack) fp H3 H' s3.heap G := by
    refine ⟨fun b q e n nf nx => ?_, fun b q e n hb nx => ?_, fun b q e n nx => ?_, fun b q e nx => ?_, fun b xs e => ub.tups b xs (base.tups b xs e), fun b q xs e => ub.frzs b q xs (base.frzs b q xs e), fun b ps e => ?_⟩
    · exact gB b q (ub.keep b q (base.keep b q e n nf nx) (base.free b q e n nx) nf)
    · obtain ⟨sl, e1⟩ := base.slot b q e n hb nx
      obtain ⟨sl2, e2⟩ := ub.slot b _ e1 hb
      exact ⟨sl2, (gF b hb).trans e2⟩
    · obtain ⟨sl, e1⟩ := base.any e n nx
      exact ub.free b _ e1 (base.free b q e n nx)
    · obtain ⟨q1, e1⟩ := base.there b q e nx
      by_cases hb : b ∈ frs X.stack
      · obtain ⟨sl, e2⟩ := ub.slot b q1 e1 hb
        exact ⟨_, (gF b hb).trans e2⟩
      · obtain ⟨q2, e2⟩ := ub.there b q1 e1 hb
        exact ⟨q2, gB b q2 e2⟩
    · obtain ⟨more, e1⟩ := base.tbls b ps e
      obtain ⟨more2, e2⟩ := ub.tbls b _ e1
      exact ⟨more ++ more2, by rw [e2, Array.append_assoc]⟩
  have IG := I3.call (g' := s'.gens) (t' := s'.toks) (d' := s'.drawn) un (hok.kept gB) ag fun b hb => ⟨(hfp b hb).2.2.2.1, (hfp b hb).2.1, (hfp b hb).2.2.2.2.1, (hfp b hb).2.2.2.2.2⟩
  show wpAny _ X.A (noteFrame (.ref a) ce) _ _ s'
  rw [noteFrame_env _ hcf]
  refine HandSPX.looks_onZ Zc.steady hfr hf (by rw [← hs]; exact fl) fun h1 held up1 => ?_
  have ns1 : Heap.Ns h1 ce.locals m := Heap.Ns.upToSlots ⟨o, es, ep, st _ o cB, hod, hrest⟩ up1
  refine ⟨m, ns1, fun h2 m2 ns2 sb => ?_⟩
  obtain ⟨b1, b0, f1, t1⟩ := held
  obtain ⟨o2, es2, ep2, ho2, _, _⟩ := id ns2
  have ho2f : o2.isFreed = false := (Heap.get?_some_iff.mp ho2).2
  have bC : (B.update ce.locals fun _ => o2).get? ce.locals = some o2 := Heap.get?_update_self (fun _ => o2) cB ho2f
  have bO : ∀ b, b ≠ ce.locals → (B.update ce.locals fun _ => o2).get? b = B.get? b := fun b hb => Heap.get?_update_other _ _ (Ne.symm hb)
  have nC : ∀ b, B.get? b = none → b ≠ ce.locals := fun b e z => by rw [z, cB] at e; cases e
  have held2 : HandSPX.HeldZ (B.update ce.locals fun _ => o2) (X.env :: X.outer) a (Zc cls d) X.env.locals h2 := by
    obtain ⟨oe, vs, T, oT, ts, he, hz, hd, h1', hnT, hTe, hT, hdT, h3⟩ := t1
    refine ⟨fun b q e => ?_, ?_, ?_, oe, vs, T, oT, ts, (sb.2 a (nC a b0)).trans he, hz, hd, h1', ?_, hTe, (sb.2 T (nC T hnT)).trans hT, hdT, h3⟩
    · by_cases hb : b = ce.locals
      · subst hb
        rw [bC] at e
        cases e
        exact ho2
      · rw [bO b hb] at e
        exact (sb.2 b hb).trans (b1 b q e)
    · rw [bO a (nC a b0)]; exact b0
    · refine funFrames_none (Heap.FunFrames.sameBut sb ns2 f1) fun L hL => ?_
      have z := (f1.mem hL).1
      rw [bO L (nC L z)]; exact z
    · rw [bO T (nC T hnT)]; exact hnT
  obtain ⟨oe, vs, T, oT, ts, he, hz, hd, h1', _⟩ := id held2.2.2.2
  unfold PySem.passOn
  refine wpAny_bind (wpAny_field he hd h1' ?_)
  rw [if_neg (by simp)]
  rw [hcf, hf]
  refine wpAny_bind (HandSPX.setFlight_onZ held2 fun h3 held3 up3 => wpAny_throw (tk _ _ ?_))
  have gC : (G.update ce.locals fun _ => o2).get? ce.locals = some o2 := Heap.get?_update_self (fun _ => o2) (gB _ o cB) ho2f
  have gO : ∀ b, b ≠ ce.locals → (G.update ce.locals fun _ => o2).get? b = G.get? b := fun b hb => Heap.get?_update_other _ _ (Ne.symm hb)
  have IG' := IG.turned (h' := G.update ce.locals fun _ => o2) (t' := s'.toks) (it := ce.locals) (fun b q hb e => (gO b hb).trans e) cFree' fpC.2.1 fpC.2.2.2.1 fpC.2.2.2.2.1 fpC.2.2.2.2.2
  refine ⟨a, B.update ce.locals fun _ => o2, _, pins, σ, H', cls, d, rfl, IG', fun b q e nf => ?_, fun b q e nd => ?_, .inr (.inr (by rw [hs]; exact held3)), na, os.trans Ib.os, ag, hE _ _ _ hE1⟩
  · by_cases hb : b = ce.locals
    · subst hb
      have e' : (G.update ce.locals fun _ => o2).get? ce.locals = some q := e
      rw [gC] at e'
      cases e'
      exact bC
    · have e' : (G.update ce.locals fun _ => o2).get? b = some q := e
      rw [gO b hb] at e'
      rw [bO b hb]
      exact (og b q e').2 nf
  · have e' : (G.update ce.locals fun _ => o2).get? b = some q := e
    by_cases hb : b = ce.locals
    · subst hb
      rw [gC] at e'
      cases e'
      exact up3 _ _ ho2 nd
    · rw [gO b hb] at e'
      obtain ⟨sl, e1⟩ := up1 b q (og b q e').1 nd
      obtain ⟨sl2, e2⟩ := up3 b _ ((sb.2 b hb).trans e1) nd
      exact ⟨sl2, e2⟩
end
/-- [elt for tg in iter if ..]: the element may let out what the def lets out -/
theorem lcE_core {X : Cx} {pins : List (Addr × Obj)} {s : Shared} {σ : St} {H : Hp} {Q : VK} {elt tg iter : Expr} {ifs : List Expr} {scope : Scope} {own : List (Str × Nat)} {pos pos' : Pos} {wi : TI} {g : TG} {tt : TT} {te : TE} {use : Option (Value → Sem Unit)} {Qf : Value → Shared → Prop} {W : WX}
    (calm : X.calm = true) (nd : X.N.Nodup) (I : Inv X pins σ H s) (hi : PI X tg iter wi) (ok : BlkOk X.N X.env.scope scope own)
    (hg : ∀ (s : Shared) (H : Hp) (C : Addr) (cl : List (Str × Addr)) (fp : List Addr), PG (X.blk s H scope (compEnvC scope cl C X.env) fp) tg g) (ht : ∀ (s : Shared) (H : Hp) (C : Addr) (cl : List (Str × Addr)) (fp : List Addr), PTs (X.blk s H scope (compEnvC scope cl C X.env) fp) ifs tt)
    (he : ∀ (s : Shared) (H : Hp) (C : Addr) (cl : List (Str × Addr)) (fp : List Addr) (xe : Value → Shared → Prop), (∀ σ', PassesAt (L2.CX X.prog X.w) (blkE X s H scope (compEnvC scope cl C X.env) fp xe) σ' fun c d H => W c d σ H) → PE (blkE X s H scope (compEnvC scope cl C X.env) fp xe) elt te)
    (nofold : ∀ x, foldedSetIterable iter X.env x = pure x) (tk : Takes X W) (stk : X.stack = X.env :: X.outer) (frm : X.env.frame = some X.env.locals)
    (h : tLc wi g tt te (own.map (·.2)) σ H Q)
    (fine : ∀ (D : Addr) (ce : Env) (s' : Shared) (m : Str → Option Value) (H' : Hp), Inv X pins σ H' s' → Q (.ref D) H' → s'.heap.Ns ce.locals m → FpOk X pins H' ce.locals → compEnds (model X.prog X.w) X.A X.xe use Qf (.ref D) ce (.ok .next) s') :
    wpAny (model X.prog X.w) X.A (comprehension (.ListComp elt [⟨tg, iter, ifs, 0⟩] scope pos) scope X.env pos' (newList []) false (eval iter X.env) use) Qf X.xe s := by
  have cells : ∀ y ∈ scope.names, y.2 = .free → ∃ c, X.env.cells.lookup y.1 = some c := fun y hy e => I.ok.has y.1 (ok.free y hy e)
  refine comprehension_at (use := use) rfl nofold (closure_ok cells) ok.kind (fun y hy e => (ok.uniq y hy).trans (congrArg some e)) (thn (hi.run pins s σ H _ I h) fun xv s1 hx => thn hx fun itv s2 ⟨it, fp, tn, J, H2, ei, I2, T, st2, f2, q⟩ => ?_)
  subst ei
  refine wpAny_newObj_type (newEnv_comp ?_) (by show 0 ≤ sizeLine; decide)
  -- the new list
  generalize hD : s2.heap.objs.size = D
  have Dn : H2 D = none := I2.hok.fresh (Nat.le_of_eq hD)
  obtain ⟨V, ⟨m0, v0⟩, turn⟩ := q D Dn
  generalize hs3 : ({ s2 with heap := s2.heap.push { cls := .type "list", data := .seq ([] : List Value).toArray } } : Shared) = s3
  have heap3 : s3.heap = s2.heap.push { cls := .type "list", data := .seq ([] : List Value).toArray } := by subst hs3; rfl
  have at3 : ∀ b o, s2.heap.get? b = some o → s3.heap.get? b = some o := fun b o e => by rw [heap3]; exact Heap.get?_push_of_some _ e
  have I3 : Inv X pins σ (upd H2 D (.lst [])) s3 := by
    subst hs3
    exact I2.laid (t' := s2.toks) (fun b o e => Heap.get?_push_of_some _ e) (Nat.le_of_eq hD) ⟨Nat.zero_le _, [], 0, .nil, by rw [← hD]; exact Heap.get?_push_size _ rfl⟩
  have old : ∀ b ∈ fp, b < s2.heap.objs.size := fun b hb => let ⟨o, e, _⟩ := T.obj _ _ st2 b hb; Heap.lt_size e
  have f3 : ∀ b ∈ fp, FpOk X pins (upd H2 D (.lst [])) b ∧ b < s3.heap.objs.size := fun b hb =>
    ⟨⟨by rw [upd_ne (by rw [← hD]; exact Nat.ne_of_lt (old b hb))]; exact (f2 b hb).1, (f2 b hb).2⟩, by rw [heap3, Heap.size_push]; exact Nat.lt_succ_of_lt (old b hb)⟩
  have st3 : tn 0 s3.heap := T.keep _ _ _ st2 fun b _ o e => at3 b o e
  have I4 := block_start I3 ok nd f3
  generalize hcl : cellsFrom (s3.heap.objs.size + 1) scope.names (cloFrom X.env.cells scope.names []) = cl at I4
  have pg := hg s3 (upd H2 D (.lst [])) s3.heap.objs.size cl fp
  have pt := ht s3 (upd H2 D (.lst [])) s3.heap.objs.size cl fp
  have pe := he s3 (upd H2 D (.lst [])) s3.heap.objs.size cl fp
  have off3 : ∀ b ∈ fp, (upd H2 D (.lst [])) b = none := fun b hb => (f3 b hb).1.1
  show codeAny _ _ (.compStart (.ListComp elt [⟨tg, iter, ifs, 0⟩] scope pos) 0 (.ref it) (.ref D) (compEnvC scope cl s3.heap.objs.size X.env)) (compEnds (model X.prog X.w) X.A X.xe use Qf (.ref D) (compEnvC scope cl s3.heap.objs.size X.env)) { s3 with heap := pushCells (s3.heap.push { cls := .type "dict", data := .dict #[] }) scope.names }
  have cL : (compEnvC scope cl s3.heap.objs.size X.env).locals = s3.heap.objs.size := rfl
  have cF : (compEnvC scope cl s3.heap.objs.size X.env).frame = X.env.frame := rfl
  generalize compEnvC scope cl s3.heap.objs.size X.env = ce at I4 pg pt pe cL cF ⊢
  generalize hH3 : upd H2 D (.lst []) = H3 at I3 I4 pg pt pe v0 off3 f3
  -- what the element lets out
  have pe' := pe (notedBy (model X.prog X.w) X.A ce fun e s' => compEnds (model X.prog X.w) X.A X.xe use Qf (.ref D) ce (.error e) s') fun σ' pinsB Hb sb e s' Ib cx => by
    have air := comp_air I3 (inv_blkN Ib) cx (fun _ _ _ h => h) tk stk frm cF (fun b hb => (f3 b hb).1) (Nat.le_of_eq cL.symm)
    cases use <;> exact air
  generalize hs4 : ({ s3 with heap := pushCells (s3.heap.push { cls := .type "dict", data := .dict #[] }) scope.names } : Shared) = s4 at I4 ⊢
  have st4 : tn 0 s4.heap := T.keep _ _ _ st3 fun b _ o e => by subst hs4; exact pushCells_keeps _ _ _ _ (Heap.get?_push_of_some _ e)
  have foot : ∀ {σ' : St} {H' : Hp} {s' : Shared}, Inv (X.blk s3 H3 scope ce fp) [] σ' H' s' → (∀ b ∈ fp, H' b = none) → ∀ b ∈ fp, FpOk (X.blk s3 H3 scope ce fp) [] H' b := fun {σ' H' s'} J' off b hb =>
    ⟨off b hb, (J'.ok.exf b hb).1, J'.ok.exfs b hb, .inl hb, (J'.ok.exf b hb).2, fun p hp => by cases (show p ∈ ([] : List (Addr × Obj)) from hp)⟩
  have go : codeAny (model X.prog X.w) X.A (.compLoop (.ListComp elt [⟨tg, iter, ifs, 0⟩] scope pos) 0 (.ref it) (.ref D) ce) (compEnds (model X.prog X.w) X.A X.xe use Qf (.ref D) ce) s4 := by
    refine compLoop_any (fun n s' => ∃ i H', Inv (X.blk s3 H3 scope ce fp) [] (wipe σ (own.map (·.2))) H' s' ∧ tn i s'.heap ∧ (∀ b ∈ fp, H' b = none) ∧ V i n H') ?_ m0 ⟨0, H3, I4, st4, off3, v0⟩
    rintro n s5 ⟨i, H5, I5, st5, off5, v5⟩
    rcases turn i n H5 v5 with ⟨stop, fin⟩ | ⟨on, Nx, less, step⟩
    · refine thnF (T.done (X.blk s3 H3 scope ce fp) rfl rfl rfl calm i [] s5 _ H5 (fun _ _ => False) I5 (foot I5 off5) st5 stop) fun r s6 ⟨hr, I6⟩ => ?_
      subst hr
      have I7 : Inv X pins σ H5 s6 := I3.call' (ch := fp) I6.os I6.base I6.hok I6.bare fun b hb => ⟨(f3 b hb).1.2.2.2.1, (f3 b hb).1.2.1, (f3 b hb).1.2.2.2.2.1, (f3 b hb).1.2.2.2.2.2⟩
      obtain ⟨m, hn, _⟩ := I6.loc
      exact fine D ce s6 m H5 I7 fin hn (I3.fpOk (Nat.le_of_eq cL.symm) I6.free)
    · refine thnF (T.item (X.blk s3 H3 scope ce fp) rfl rfl rfl calm i [] s5 _ H5 (fun _ _ => False) I5 (foot I5 off5) st5 on) fun r s6 ⟨u, hr, h6⟩ => ?_
      subst hr
      refine thnF h6 fun _ s7 ⟨x, H7, I7, r7, y7, st7, off7⟩ => ?_
      refine thnF (pg.run _ s7 _ H7 x u _ (I7.pinned (foot I7 off7) (T.obj _ _ st7)) r7 (step x H7 y7)) fun _ s8 ⟨σ8, H8, I8, w8, q8⟩ => ?_
      refine thnF (pt.run _ s8 σ8 H8 _ I8 q8) fun b s9 ⟨H9, I9, q9⟩ => ?_
      have ends : ∀ {s' : Shared} {H' : Hp}, Inv (X.blk s3 H3 scope ce fp) ([] ++ pinsAt fp s7.heap) σ8 H' s' → Nx H' → ∃ m, m < n ∧ ∃ i H', Inv (X.blk s3 H3 scope ce fp) [] (wipe σ (own.map (·.2))) H' s' ∧ tn i s'.heap ∧ (∀ b ∈ fp, H' b = none) ∧ V i m H' := fun {s' H'} J' nx => by
        obtain ⟨m', lt, v'⟩ := less H' nx
        have pinned : ∀ b ∈ fp, ∀ o, s7.heap.get? b = some o → s'.heap.get? b = some o ∧ H' b = none := fun b hb o e => by
          have z := J'.pin (b, o) (List.mem_append_right _ (List.mem_append_right _ (mem_pinsAt hb e)))
          exact ⟨z.1, z.2.1⟩
        refine ⟨m', lt, i + 1, H', (J'.unpinned (pins := [])).weak (by rw [← w8, wipe_length]) (fun j v e => by rw [← w8] at e; exact (wipe_some e).1), T.keep _ _ _ st7 fun b hb o e => (pinned b hb o e).1, fun b hb => ?_, v'⟩
        obtain ⟨o, e, _⟩ := T.obj _ _ st7 b hb
        exact (pinned b hb o e).2
      cases b with
      | false => exact ends I9 q9
      | true =>
        refine wpAny_mono (pe'.run _ s9 σ8 H9 _ (inv_blkE I9) q9) (fun z s10 ⟨yv, H10, I10, r10, acc, hD10, hz10, nx⟩ => ?_) fun _ _ e => e
        exact thnF (app_ok (E := fun _ _ => False) (Q := fun _ s' => ∃ H', Inv (X.blk s3 H3 scope ce fp) ([] ++ pinsAt fp s7.heap) σ8 H' s' ∧ Nx H') (X := X.blk s3 H3 scope ce fp) (inv_blkN I10) hD10 hz10 r10 fun s11 I11 => ⟨_, I11, nx⟩) fun _ s11 ⟨H', I11, nx'⟩ => ends I11 nx'
  exact codeAny_compStart_list go (T.self X.A 0 _ _ _ st4 go)
section
variable {Γ : Glob} {X : Cx} {W : WX} {cx : Cxt} {C : Cv} {k : Nat}
theorem lcE_of {nw : Bool} {ow : List Nat} {x : E} {g : G} {kk : ItK} {es cs : List E} (hg : ∀ i ∈ gIdx g, i ∈ ow) {σ : St} {H : Hp} {Q : VK} (h : rdE Γ W (fun ρ μ => nwR nw (ev cx (.cmpR ow x g kk es cs) ρ μ)) σ H Q) :
    tLc (tWalk Γ W cx kk es) (rdG Γ g) (rdC Γ W0 cx cs) (rdE Γ (fun c d _ H => W c d σ H) (ev cx x)) ow σ H Q := by
  have h1 : RD Γ W [] (fun ds ρ μ => (evs cx es ρ μ).bind fun vs μ1 => (fun ds ρ μ1 => match itD kk ds μ1 with
      | some xs => if xs.length ≤ LN then (compR (still ds μ1) (turnR cx ow x g cs ρ) xs [] μ1).bind fun ys μ => nwR nw (.ok (.lst ys) μ) else .stuck
      | none => .stuck) (ds ++ vs) ρ μ1) σ H Q := by
    obtain ⟨w, ρ, μ, ds, g0, rv, p⟩ := h
    refine ⟨w, ρ, μ, [], g0, trivial, ?_⟩
    simp only [ev_cmpR, nwR_bind] at p
    dsimp only [List.nil_append]
    refine Eq.mp (congrArg _ ?_) p
    congr 1
    funext vs μ1
    cases itD kk vs μ1 with
    | none => cases nw <;> rfl
    | some xs =>
      dsimp only
      split
      · rw [nwR_bind]
      · cases nw <;> rfl
  refine rdA.mono (RD.evals (f := fun ds ρ μ1 => match itD kk ds μ1 with
      | some xs => if xs.length ≤ LN then (compR (still ds μ1) (turnR cx ow x g cs ρ) xs [] μ1).bind fun ys μ => nwR nw (.ok (.lst ys) μ) else .stuck
      | none => .stuck) h1) fun vs H1 h2 => ?_
  obtain ⟨w, ρ, μ, ds, gd, rv, p⟩ := h2
  dsimp only at p
  cases hit : itD kk ds μ with
  | none => rw [hit] at p; exact p.elim
  | some xs =>
    rw [hit] at p
    dsimp only at p
    split at p
    · rename_i hxs
      refine ⟨w, μ, ds, xs, gd.ok, rv, hit, fun J hJ D hD => ?_⟩
      have hpr : ∀ q ∈ w.pr, q.1 ≠ D := fun q hq => ne_of_none (gd.ok.pro q hq).1 hD
      refine ⟨fun i m H => ∃ (w' : Wd) (μ' : Mu) (acc : List KP.D) (av : List V), w.le w' ∧ OkW Γ (w'.hide D (.lst av)) μ' H ∧ Rps Γ w'.Φ av acc ∧ acc.length ≤ i ∧ i ≤ xs.length ∧ m = xs.length - i ∧
        postE Γ W σ w' Q ((compR (still ds μ) (turnR cx ow x g cs ρ) (xs.drop i) acc μ').bind fun ys μ => nwR nw (.ok (.lst ys) μ)), ⟨xs.length, w, μ, [], [], w.refl, gd.ok.hideNew hD, .nil, Nat.zero_le _, Nat.zero_le _, rfl, p⟩, ?_⟩
      rintro i m H2 ⟨w', μ', acc, av, le, ok, hR, hacc, hi, rfl, p⟩
      have lf : w.lf (w'.hide D (.lst av)) := le.lf.trans Wd.lf_hide
      have hpr' : ∀ q ∈ w'.pr, q.1 ≠ D := by rw [le.2.2]; exact hpr
      by_cases hlt : i < xs.length
      · have hd : xs[i]? = some xs[i] := List.getElem?_eq_getElem hlt
        have hdrop : xs.drop i = xs[i] :: xs.drop (i + 1) := List.drop_eq_getElem_cons hlt
        rw [hdrop, compR] at p
        split at p
        · rename_i hst
          obtain ⟨_, hgo⟩ := hJ i _ μ' H2 lf ok hst
          obtain ⟨go, yl⟩ := hgo _ hd
          refine .inr ⟨go, fun H3 => ∃ (w'' : Wd) (μ'' : Mu) (acc : List KP.D) (av : List V), w.le w'' ∧ OkW Γ (w''.hide D (.lst av)) μ'' H3 ∧ Rps Γ w''.Φ av acc ∧ acc.length ≤ i + 1 ∧
            postE Γ W σ w'' Q ((compR (still ds μ) (turnR cx ow x g cs ρ) (xs.drop (i + 1)) acc μ'').bind fun ys μ => nwR nw (.ok (.lst ys) μ)), ?_, ?_⟩
          · rintro H3 ⟨w'', μ'', acc2, av2, le2, ok2, hR2, ha2, p2⟩
            exact ⟨xs.length - (i + 1), by omega, w'', μ'', acc2, av2, le2, ok2, hR2, ha2, hlt, rfl, p2⟩
          · intro xv H3 hy
            obtain ⟨w2, le2, ok2, rx⟩ := yl xv H3 hy
            have st2 : RSt Γ w2 (wipe σ ow) (wipeR ρ ow) := (gd.st.monf (lf.trans le2.lf)).wipe_ ow
            refine ⟨w2, wipeR ρ ow, μ', xs[i], ⟨st2, ok2⟩, rx, ?_⟩
            unfold turnR at p
            cases ht : tgt g xs[i] (wipeR ρ ow) μ' with
            | none => rw [ht] at p; exact p.elim
            | some ρ1 =>
              rw [ht] at p
              dsimp only at p ⊢
              intro σ1 gd1 hl1 hj1
              refine ⟨wipe_same hg hl1 hj1, w2, ρ1, μ', [], gd1, trivial, ?_⟩
              dsimp only
              -- what stands behind a turn, in the world w3
              have back : ∀ (w3 : Wd), w2.le w3 → w3.pr = (D, .lst av) :: w'.pr ∧ w'.le ⟨w3.Φ, w3.θ, w'.pr⟩ := fun w3 le3 => ⟨by rw [le3.2.2, le2.2.2]; rfl, ⟨(le2.1.trans le3.1 : Same w'.Φ w3.Φ), fun n a q => le3.2.1 n a (le2.2.1 n a q), rfl⟩⟩
              cases hc : evc cx cs ρ1 μ' with
              | exc c ns vs μ3 => rw [hc] at p; exact p.elim
              | stuck => rw [hc] at p; exact p.elim
              | ok b μ3 =>
                rw [hc] at p
                intro w3 H4 le3 ok3
                cases b with
                | false =>
                  obtain ⟨e3, lb⟩ := back w3 le3
                  have ok3' : OkW Γ (Wd.hide ⟨w3.Φ, w3.θ, w'.pr⟩ D (.lst av)) μ3 H4 := by
                    have e4 : Wd.hide ⟨w3.Φ, w3.θ, w'.pr⟩ D (.lst av) = w3 := by
                      obtain ⟨a, b, c⟩ := w3
                      have e3' : c = (D, .lst av) :: w'.pr := e3
                      subst e3'; rfl
                    rw [e4]; exact ok3
                  simp only [Bool.false_eq_true, if_false]
                  exact ⟨⟨w3.Φ, w3.θ, w'.pr⟩, μ3, acc, av, Wd.trans le lb, ok3', Rps.mono lb.1 _ _ hR, by omega, postE.mono lb p⟩
                | true =>
                  simp only [if_true]
                  refine ⟨w3, ρ1, μ3, [], ⟨gd1.st.mono le3, ok3⟩, trivial, ?_⟩
                  dsimp only at p ⊢
                  rw [show (R.ok true μ3).calm = R.ok true μ3 from rfl, R.ok_bind] at p
                  cases he : ev cx x ρ1 μ3 with
                  | exc c ns vs μ4 =>
                    dsimp only at p
                    rw [he] at p
                    intro w4 H5 dx le4 ok4 x4
                    obtain ⟨e3, lb⟩ := back w4 (Wd.trans le3 le4)
                    have ok4' : OkW Γ (Wd.hide ⟨w4.Φ, w4.θ, w'.pr⟩ D (.lst av)) μ4 H5 := by
                      have e4 : Wd.hide ⟨w4.Φ, w4.θ, w'.pr⟩ D (.lst av) = w4 := by
                        obtain ⟨a, b, c⟩ := w4
                        have e3' : c = (D, .lst av) :: w'.pr := e3
                        subst e3'; rfl
                      rw [e4]; exact ok4
                    exact p ⟨w4.Φ, w4.θ, w'.pr⟩ H5 dx lb (OkW.drop (p := D) (o := .lst av) ok4') x4
                  | stuck => dsimp only at p; rw [he] at p; exact p.elim
                  | ok y μ4 =>
                    dsimp only at p
                    rw [he] at p
                    intro w4 yv H5 le4 ok4 ry
                    obtain ⟨e3, lb⟩ := back w4 (Wd.trans le3 le4)
                    have ok4' : OkW Γ (Wd.hide ⟨w4.Φ, w4.θ, w'.pr⟩ D (.lst av)) μ4 H5 := by
                      have e4 : Wd.hide ⟨w4.Φ, w4.θ, w'.pr⟩ D (.lst av) = w4 := by
                        obtain ⟨a, b, c⟩ := w4
                        have e3' : c = (D, .lst av) :: w'.pr := e3
                        subst e3'; rfl
                      rw [e4]; exact ok4
                    obtain ⟨q1, _, _⟩ := ok4'.pro (D, .lst av) List.mem_cons_self
                    have p3 : postE Γ W σ w' Q ((if y.isCell = true then R.stuck else compR (still ds μ) (turnR cx ow x g cs ρ) (xs.drop (i + 1)) (acc ++ [y]) μ4).bind fun ys μ => nwR nw (.ok (.lst ys) μ)) := p
                    split at p3
                    · exact p3.elim
                    · rename_i hy2
                      have ry' : Rp Γ w4.Φ yv y := ry.rp (by simpa using hy2)
                      have hav : av.length = acc.length := hR.len
                      have hR' : Rps Γ w4.Φ (av ++ [yv]) (acc ++ [y]) := (Rps.mono lb.1 _ _ hR).app (.cons ry' .nil)
                      refine ⟨av, q1, by show av.length < LN; omega, ⟨w4.Φ, w4.θ, w'.pr⟩, μ4, acc ++ [y], av ++ [yv], Wd.trans le lb, ok4'.hideSet hpr', hR', by rw [List.length_append]; simp; omega, postE.mono lb p3⟩
        · exact p.elim
      · have e : i = xs.length := by omega
        have hdrop : xs.drop i = [] := List.drop_eq_nil_of_le (by omega)
        rw [hdrop, compR] at p
        split at p
        · rename_i hst
          refine .inl ⟨(hJ i _ μ' H2 lf ok hst).1 e, ?_⟩
          have hz : acc.length ≤ LN := by omega
          rw [R.ok_bind] at p
          exact made_end ok hpr' hR hz p
        · exact p.elim
    · exact p.elim
/-- in the block of one whose element may raise -/
theorem Sx.blkE (S : Sx Γ C k X W) (scope : Scope) (s : Shared) (H : Hp) (Cc : Addr) (cl : List (Str × Addr)) (fp : List Addr) (xe : Value → Shared → Prop) {σ : St} (pa : ∀ σ', PassesAt (L2.CX X.prog X.w) (KP.blkE X s H scope (compEnvC scope cl Cc X.env) fp xe) σ' fun c d H => W c d σ H) :
    Sx Γ (C.blk scope) k (KP.blkE X s H scope (compEnvC scope cl Cc X.env) fp xe) (fun c d _ H => W c d σ H) where
  hK := S.hK
  hN := S.hN
  sc := by show relS scope X.env.scope = relS scope C.sc; rw [S.sc]
  nd := S.nd
  calm := S.calm
  room := S.room
  gd := S.gd
  tk := fun h => by cases (show true = false from h)
  po := fun h => by cases (show true = false from h)
  stk := fun h => by cases (show true = false from h)
  frm := fun h => by cases (show true = false from h)
  pa := pa
  gl := S.gl
  stq := fun x hx => hx
  lmk := fun q hq => let h := S.lmk q hq; ⟨h.room, h.nm, h.tab⟩
  nmk := S.nmk
/-- what holds in the block -/
structure BlkR (Γ : Glob) (X : Cx) (W : WX) (cx : Cxt) (scope : Scope) (tg : Expr) (g : G) (ifs : List Expr) (cs : List E) (elt : Expr) (x : E) : Prop where
  hg : ∀ (s : Shared) (H : Hp) (Cc : Addr) (cl : List (Str × Addr)) (fp : List Addr), PG (X.blk s H scope (compEnvC scope cl Cc X.env) fp) tg (rdG Γ g)
  ht : ∀ (s : Shared) (H : Hp) (Cc : Addr) (cl : List (Str × Addr)) (fp : List Addr), PTs (X.blk s H scope (compEnvC scope cl Cc X.env) fp) ifs (rdC Γ W0 cx cs)
  he : ∀ (σ : St) (s : Shared) (H : Hp) (Cc : Addr) (cl : List (Str × Addr)) (fp : List Addr) (xe : Value → Shared → Prop), (∀ σ', PassesAt (L2.CX X.prog X.w) (KP.blkE X s H scope (compEnvC scope cl Cc X.env) fp xe) σ' fun c d H => W c d σ H) → PE (KP.blkE X s H scope (compEnvC scope cl Cc X.env) fp xe) elt (rdE Γ (fun c d _ H => W c d σ H) (ev cx x))
variable {pos pos' : Pos} {x : E}
theorem s_cmpR {nw : Bool} (S : Sx Γ C k X W) (hbl : C.bl = false) {own : List (Str × Nat)} {scope : Scope} {tg iter elt : Expr} {ifs : List Expr} {g : G} {kk : ItK} {es cs : List E} (ok : BlkOk X.N X.env.scope scope own) (hgi : ∀ i ∈ gIdx g, i ∈ own.map (·.2)) (hi : PI X tg iter (tWalk Γ W cx kk es)) (B : BlkR Γ X W cx scope tg g ifs cs elt x) (hs : ∀ x, foldedSetIterable iter X.env x = pure x) :
    PE X (.ListComp elt [⟨tg, iter, ifs, 0⟩] scope pos) (rdE Γ W fun ρ μ => nwR nw (ev cx (.cmpR (own.map (·.2)) x g kk es cs) ρ μ)) := by
  refine ⟨fun pins s σ H Q I h => ?_⟩
  rw [eval_ListComp]
  refine lcE_core (W := W) S.calm S.nd I hi ok B.hg B.ht (B.he σ) hs (S.tk hbl) (S.stk hbl) (S.frm hbl) (lcE_of hgi h) fun D ce s' m H' I' q hn f => ⟨m, hn, fun h'' sb => ?_⟩
  exact ⟨.ref D, H', I'.turned (t' := s'.toks) (fun b o hb e => (sb.2 b hb).trans e) f.1 f.2.1 f.2.2.2.1 f.2.2.2.2.1 f.2.2.2.2.2, rfl, q⟩
theorem ss_cmpR {nw : Bool} (S : Sx Γ C k X W) (hbl : C.bl = false) {own : List (Str × Nat)} {scope : Scope} {tg iter elt : Expr} {ifs : List Expr} {g : G} {kk : ItK} {es cs : List E} {i : Nat} {z : Str} {spos : Pos} (ok : BlkOk X.N X.env.scope scope own) (hgi : ∀ i ∈ gIdx g, i ∈ own.map (·.2)) (hi : PI X tg iter (tWalk Γ W cx kk es)) (B : BlkR Γ X W cx scope tg g ifs cs elt x) (hs : ∀ x, foldedSetIterable iter X.env x = pure x)
    (hz : X.N[i]? = some z) (hzl : X.env.scope.names.lookup z = some .local) (hsw : swapsWith (.ListComp elt [⟨tg, iter, ifs, 0⟩] scope pos) (some (.Name z pos')) spos.line X.env = pure true) :
    PS X (.Assign [.Name z pos'] (.ListComp elt [⟨tg, iter, ifs, 0⟩] scope pos) spos) (rdS Γ W fun ρ μ => (nwR nw (ev cx (.cmpR (own.map (·.2)) x g kk es cs) ρ μ)).bind fun d μ => .ok (.nx (ρ.set i (some d))) μ) := by
  refine ⟨fun pins s σ H D I h => ?_⟩
  rw [exec_Assign_Name_used _ _ _ _ hsw]
  refine wpAny_bind (wpAny_standAt (wpAny_bind ?_))
  show wpAny _ X.A (do let _ ← comprehension (.ListComp elt [⟨tg, iter, ifs, 0⟩] scope pos) scope X.env (firstIterPos [⟨tg, iter, ifs, 0⟩] pos) (newList []) false (eval iter X.env) (some (assign (.Name z pos') X.env))) _ _ s
  have h' := lcE_of (Γ := Γ) (W := W) (cx := cx) hgi (asgEval h)
  refine wpAny_bind (thn (lcE_core (W := W) (Qf := fun _ s' => SP X pins D .next s') S.calm S.nd I hi ok B.hg B.ht (B.he σ) hs (S.tk hbl) (S.stk hbl) (S.frm hbl) h' fun L ce s' m H' I' q hn f => ?_) fun _ s' hq => wpAny_pure (wpAny_pure hq))
  show wpAny _ _ (assign (.Name z pos') X.env (.ref L)) _ _ _
  refine wpAny_assign_Name (store_ok2 (v := V.ref L) I' S.nd hz (.inl hzl) rfl (fun s2 I2 ⟨a, sb, ha⟩ => ?_) (.inr hzl))
  have haC : ce.locals ≠ a := by
    rcases ha with e | e
    · rw [e]; exact f.2.1
    · exact fun e' => f.2.2.2.2.1 z a e e'.symm
  exact ⟨m, hn.sameBut sb haC, fun h3 sb3 => ⟨_, H', I2.turned (t' := s2.toks) (fun b o hb e => (sb3.2 b hb).trans e) f.1 f.2.1 f.2.2.2.1 f.2.2.2.2.1 f.2.2.2.2.2, q⟩⟩
end
end KP
end

section
set_option maxRecDepth 100000
set_option maxHeartbeats 4000000
/-! KPH: what is let go of at a call's end. -/
namespace KP
open PySem PySem.Spec PyProof.Rows L2
section
variable {Γ : Glob} {w : Wd} {μ : Mu} {H : Hp} {n : Nat}
theorem take_get {α : Type} {l : List α} {n i : Nat} {a : α} (h : (l.take n)[i]? = some a) : i < n ∧ l[i]? = some a := by
  by_cases hi : i < n
  · rw [List.getElem?_take_of_lt hi] at h
    exact ⟨hi, h⟩
  · rw [List.getElem?_eq_none (by rw [List.length_take]; omega)] at h
    cases h
theorem OkW.cut (ok : OkW Γ w μ H) (n : Nat) : OkW Γ (w.cut n) (μ.take n) H where
  frz := ok.frz
  len := by
    show (w.θ.take n).length = _
    rw [List.length_take, List.length_take, ok.len]
  nd := ok.nd.sublist (List.take_sublist _ _)
  cel := fun i a m e1 e2 => by
    obtain ⟨_, e1'⟩ := take_get e1
    obtain ⟨_, e2'⟩ := take_get e2
    obtain ⟨h1, h2⟩ := ok.cel i a m e1' e2'
    refine ⟨?_, h2⟩
    cases m with
    | lsc xs =>
      obtain ⟨vs, k, q1, q2, q3⟩ := h1
      have hk : k = i := by
        have g1 := (List.getElem?_eq_some_iff.mp q2).2
        have g2 := (List.getElem?_eq_some_iff.mp e1').2
        exact (List.getElem_inj ok.nd).mp (g1.trans g2.symm)
      subst hk
      have hin := (take_get e1).1
      refine ⟨vs, k, q1, e1, ?_⟩
      refine Rvs.monf (w := w.cut k) (w' := (w.cut n).cut k) ⟨Same.refl _, fun j b e => ?_⟩ q3
      have e' : (w.θ.take k)[j]? = some b := e
      show ((w.θ.take n).take k)[j]? = some b
      rw [List.take_take, Nat.min_eq_left (by omega)]
      exact e'
    | _ => exact h1
  pro := fun q hq => by
    obtain ⟨h1, h2, h3⟩ := ok.pro q hq
    exact ⟨h1, h2, fun z => h3 (List.mem_of_mem_take z)⟩
  ntb := ok.ntb
  psf := ok.psf
  tab := ok.tab
theorem cut_le {w0 : Wd} (h : w0.le w) (hn : w0.θ.length ≤ n) : w0.le (w.cut n) := by
  refine ⟨h.1, fun i a e => ?_, h.2.2⟩
  show (w.θ.take n)[i]? = some a
  rw [List.getElem?_take_of_lt (by have := (List.getElem?_eq_some_iff.mp e).1; omega)]
  exact h.2.1 i a e
/-- a thing that changed stays as it is from here on -/
def Wd.frz (w : Wd) (a : Addr) (o : HO) : Wd := ⟨upd w.Φ a o, w.θ, w.pr⟩
theorem OkW.frzc (ok : OkW Γ w μ H) {m : Nat} {a : Addr} {k : M} {o : HO} (e1 : w.θ[m]? = some a) (e2 : μ[m]? = some k) (hk : k ≠ .dead) (hn : n ≤ m) (ho : H a = some o) (hs : soft o = true := by rfl) : OkW Γ ((w.cut n).frz a o) (μ.take n) H ∧ (w.cut n).le ((w.cut n).frz a o) := by
  have hΦ := (ok.cel m a k e1 e2).2 hk
  have oc := ok.cut n
  have hna : ∀ i b, (w.θ.take n)[i]? = some b → b ≠ a := fun i b e z => by
    obtain ⟨hi, e'⟩ := take_get e
    subst z
    have l1 := (List.getElem?_eq_some_iff.mp e').1
    have l2 := (List.getElem?_eq_some_iff.mp e1).1
    have g1 := (List.getElem?_eq_some_iff.mp e').2
    have g2 := (List.getElem?_eq_some_iff.mp e1).2
    have := (List.getElem_inj ok.nd).mp (g1.trans g2.symm)
    omega
  have le1 : (w.cut n).le ((w.cut n).frz a o) := ⟨fun b x e => by
    show upd w.Φ a o b = some x
    have hb : b ≠ a := fun z => by
      subst z
      have e' : w.Φ b = some x := e
      rw [hΦ] at e'; cases e'
    rw [upd_ne hb]; exact e, fun _ _ q => q, rfl⟩
  refine ⟨⟨fun b x e => ?_, oc.len, oc.nd, fun i b k2 q1 q2 => ?_, fun q hq => ?_, fun b ps e => ?_, ok.psf, ok.tab⟩, le1⟩
  · have e' : upd w.Φ a o b = some x := e
    by_cases hb : b = a
    · subst hb
      rw [upd_same] at e'
      cases e'; exact ho
    · rw [upd_ne hb] at e'
      exact ok.frz b x e'
  · obtain ⟨h1, h2⟩ := oc.cel i b k2 q1 q2
    refine ⟨h1.mono le1 fun _ q => q, fun hm => ?_⟩
    show upd w.Φ a o b = none
    rw [upd_ne (hna i b q1)]
    exact h2 hm
  · obtain ⟨h1, h2, h3⟩ := oc.pro q hq
    refine ⟨h1, ?_, h3⟩
    show upd w.Φ a o q.1 = none
    have hqa : q.1 ≠ a := fun z => (ok.pro q hq).2.2 (z ▸ List.mem_of_getElem? e1)
    rw [upd_ne hqa]; exact h2
  · have e' : upd w.Φ a o b = some (.tbl ps) := e
    by_cases hb : b = a
    · subst hb
      rw [upd_same] at e'
      rw [Option.some.inj e'] at hs
      cases hs
    · rw [upd_ne hb] at e'
      exact ok.ntb b ps e'
/-- a thing that changes is handed on -/
theorem OkW.keepC (ok : OkW Γ w μ H) {m : Nat} {a : Addr} {k : M} (e1 : w.θ[m]? = some a) (e2 : μ[m]? = some k) (hn : n ≤ m) (hls : ∀ xs, k ≠ .lsc xs := by intro _ z; cases z) : OkW Γ ⟨w.Φ, w.θ.take n ++ [a], w.pr⟩ (μ.take n ++ [k]) H ∧ (w.cut n).le ⟨w.Φ, w.θ.take n ++ [a], w.pr⟩ := by
  have oc := ok.cut n
  have hmem : a ∉ w.θ.take n := fun z => by
    obtain ⟨i, hi⟩ := List.mem_iff_getElem?.mp z
    obtain ⟨hlt, e'⟩ := take_get hi
    have g1 := (List.getElem?_eq_some_iff.mp e').2
    have g2 := (List.getElem?_eq_some_iff.mp e1).2
    have := (List.getElem_inj ok.nd).mp (g1.trans g2.symm)
    omega
  have hl : (w.θ.take n).length = (μ.take n).length := oc.len
  refine ⟨⟨ok.frz, by rw [List.length_append, List.length_append]; exact congrArg (· + 1) hl, ?_, fun i b k2 q1 q2 => ?_, fun q hq => ?_, ok.ntb, ok.psf, ok.tab⟩, ⟨Same.refl _, fun i b q => ?_, rfl⟩⟩
  · rw [List.nodup_append]
    refine ⟨oc.nd, by simp, fun b hb c hc => ?_⟩
    rw [List.mem_singleton.mp hc]
    exact fun z => hmem (z ▸ hb)
  · by_cases hi : i < (w.θ.take n).length
    · rw [List.getElem?_append_left hi] at q1
      rw [List.getElem?_append_left (by rw [← hl]; exact hi)] at q2
      obtain ⟨h1, h2⟩ := oc.cel i b k2 q1 q2
      refine ⟨MOk.lf (w := w.cut n) ⟨Same.refl _, fun i b q => ?_⟩ h1, h2⟩
      have q' : (w.θ.take n)[i]? = some b := q
      show (w.θ.take n ++ [a])[i]? = some b
      rw [List.getElem?_append_left (List.getElem?_eq_some_iff.mp q').1]
      exact q'
    · have hi2 : i = (w.θ.take n).length := by
        have := (List.getElem?_eq_some_iff.mp q1).1
        rw [List.length_append, List.length_singleton] at this
        omega
      subst hi2
      have ea : a = b := by simpa using q1
      have ek : k = k2 := by rw [hl] at q2; simpa using q2
      subst ea ek
      obtain ⟨h1, h2⟩ := ok.cel m a k e1 e2
      refine ⟨?_, h2⟩
      cases k with
      | lsc xs => exact absurd rfl (hls xs)
      | _ => exact h1
  · obtain ⟨h1, h2, h3⟩ := oc.pro q hq
    refine ⟨h1, h2, fun z => ?_⟩
    rcases List.mem_append.mp z with z | z
    · exact h3 z
    · have := (ok.pro q hq).2.2
      exact this (by rw [List.mem_singleton.mp z]; exact List.mem_of_getElem? e1)
  · have q' : (w.θ.take n)[i]? = some b := q
    show (w.θ.take n ++ [a])[i]? = some b
    rw [List.getElem?_append_left (List.getElem?_eq_some_iff.mp q').1]
    exact q'
end
end KP
end

section
set_option maxRecDepth 100000
set_option maxHeartbeats 4000000
/-! KPI: instances: made, their methods called, their parts stored. -/
namespace KP
open PySem PySem.Spec PyProof.Rows L2
section
variable {Γ : Glob} {X : Cx} {W : WX} {cx : Cxt} {C : Cv} {k : Nat} {w : Wd} {H : Hp} {μ : Mu}
/-- a new object that the world does not look at -/
theorem OkW.ext (ok : OkW Γ w μ H) {p : Addr} {o : HO} (h : H p = none) : OkW Γ w μ (upd H p o) where
  frz := fun a x e => by
    have q := ok.frz a x e
    rw [upd_ne (ne_of_none q h)]; exact q
  len := ok.len
  nd := ok.nd
  cel := fun i a m e1 e2 => by
    obtain ⟨h1, h2⟩ := ok.cel i a m e1 e2
    exact ⟨h1.mono w.refl fun x q => by rw [upd_ne (ne_of_none q h)]; exact q, h2⟩
  pro := fun q hq => by
    obtain ⟨h1, h2, h3⟩ := ok.pro q hq
    exact ⟨by rw [upd_ne (ne_of_none h1 h)]; exact h1, h2, h3⟩
  ntb := ok.ntb
  psf := ok.psf
  tab := tabs_new ok.tab h
/-- what making one computes -/
def makeG (kind : Nat) (g : List D → Mu → R D) (c : Nat) (args : List D) (μ : Mu) : R D := (g (.cell μ.length :: args) (μ ++ [.ins c [] []])).bind fun r μ' => match r, μ'[μ.length]? with
  | .non, some (.ins c' ns vs) => (match kind with
    | 0 => .ok (.obj c' ns vs) (μ'.take μ.length)
    | 1 => .ok (.cell μ.length) μ'
    | _ => .ok (.exn c' ns vs) (μ'.take μ.length))
  | _, _ => .stuck
theorem makeC_eq {T : Tab} {cf : Nat → List D → Mu → R D} {c f : Nat} {i : ClsI} (h : T.cl c = some i) (hi : i.init = some f) (args : List D) (μ : Mu) : makeC T cf c args μ = makeG i.kind (cf f) c args μ := by
  unfold makeC
  rw [h]
  dsimp only
  rw [hi]
  rfl
/-- a class that may be made -/
structure MkOk (Γ : Glob) (P : Program) (w : World) (mg : Str → Option Value) (base : Heap) (k : Nat) (mf : List D → Mu → R D) (c f : Nat) (ps : List Str) : Prop where
  ex : ∃ kind g j, kind < 2 ∧ (∀ args μ, mf args μ = makeG kind g c args μ) ∧ j + 1 ≤ k ∧ FOk Γ P w mg base j g f ps
  cm : Mk Γ.K (Γ.cls c) (Γ.fad f)
theorem permA_self {α : Type} (pm : List Nat) (x : α) (vs zs : List α) (h : permA pm vs = some zs) : permA (0 :: pm.map (· + 1)) (x :: vs) = some (x :: zs) := by
  have e : permA (pm.map (· + 1)) (x :: vs) = some zs := by
    rw [← h]
    unfold permA
    rw [List.mapM_map]
    congr 1
  unfold permA at e ⊢
  rw [List.mapM_cons]
  show (List.mapM (fun i => (x :: vs)[i]?) (pm.map (· + 1))).bind _ = _
  rw [e]
  rfl
theorem run_mk (S : Sx Γ C k X W) {kind c f j n : Nat} {g : List D → Mu → R D} {ps ks : List Str} {pm : List Nat} (hk2 : kind < 2) (hj : j + 1 ≤ k) (F : FOk Γ X.prog X.w X.mg X.base j g f ps) (M : Mk X.K (Γ.cls c) (Γ.fad f)) (hp : pmOk (n + 1) ks ps (0 :: pm.map (· + 1)) = true)
    {pins : List (Addr × Obj)} {σ : St} {H : Hp} {s : Shared} {Q : VK} {us ws : List Value} {vs zs : List V}
    (I : Inv X pins σ H s) (r : Vals vs us) (rz : Vals zs ws) (hn : vs.length = n) (hw : zs.length = ks.length) (h : RO Γ W σ (vs ++ zs) (fun ds μ => match perm pm ds with
      | some es => makeG kind g c es μ
      | none => .stuck) H Q) : wpAny (model X.prog X.w) X.A (call (.ref (Γ.cls c)) us (ks.zip ws)) (EP X pins σ Q) X.xe s := by
  obtain ⟨fd, hfd, hkp, F, _⟩ := F
  obtain ⟨w, μ, ds, ok, rv, p⟩ := h
  dsimp only at p
  rw [perm_eq] at p
  cases e : permA pm ds with
  | none => rw [e] at p; exact p.elim
  | some es =>
    rw [e] at p
    obtain ⟨vs', e1, rv'⟩ := rv.perm pm es e
    obtain ⟨us', e2, r'⟩ := vals_perm (r.append rz) pm vs' e1
    have I2 := Inv.made (C := Γ.cls c) I
    have hx : H (s.heap.objs.size + 1) = none := I.hok.fresh (Nat.le_succ _)
    have hdx : H s.heap.objs.size = none := I.hok.fresh (Nat.le_refl _)
    have hx1 : upd H s.heap.objs.size (.own (s.heap.objs.size + 1)) (s.heap.objs.size + 1) = none := by
      rw [upd_ne (Nat.succ_ne_self _)]; exact hx
    have ok1 : OkW Γ (w.cel (s.heap.objs.size + 1)) (μ ++ [.ins c [] []]) (upd (upd H s.heap.objs.size (.own (s.heap.objs.size + 1))) (s.heap.objs.size + 1) (.ins (Γ.cls c) s.heap.objs.size [])) :=
      (ok.ext (o := .own (s.heap.objs.size + 1)) hdx).addCel hx1 ⟨s.heap.objs.size, [], upd_same, rfl, .nil⟩
    have le1 := w.cel_le (s.heap.objs.size + 1)
    have hlen := ok.len
    have cθ : (w.cel (s.heap.objs.size + 1)).θ[μ.length]? = some (s.heap.objs.size + 1) := by
      show (w.θ ++ [s.heap.objs.size + 1])[μ.length]? = _
      rw [List.getElem?_append_right (by omega), hlen, Nat.sub_self]
      rfl
    have hb := bind_pm (ps := ps) (ks := ks) (pm := 0 :: pm.map (· + 1)) (us := Value.ref (s.heap.objs.size + 1) :: us) (ws := ws) (vals := Value.ref (s.heap.objs.size + 1) :: us') hfd (by rw [List.length_cons, ← r.length, hn]; exact hp) (by rw [← rz.length, hw]) (permA_self pm _ _ _ e2)
    have hsp : spI Γ g (.ref (s.heap.objs.size + 1) :: vs') (upd (upd H s.heap.objs.size (.own (s.heap.objs.size + 1))) (s.heap.objs.size + 1) (.ins (Γ.cls c) s.heap.objs.size [])) (fun v H2 => v = .non ∧ Q (.ref (s.heap.objs.size + 1)) H2) (WE W σ) := by
      refine ⟨w.cel (s.heap.objs.size + 1), μ ++ [.ins c [] []], .cell μ.length :: es, ok1, ⟨.inl ⟨_, _, rfl, cθ, rfl⟩, Rvs.mono le1 rv'⟩, ?_⟩
      have p' : postE Γ W σ w Q (makeG kind g c es μ) := p
      unfold makeG at p'
      generalize g (.cell μ.length :: es) (μ ++ [.ins c [] []]) = rr at p' ⊢
      cases rr with
      | stuck => exact p'
      | exc c2 ns xs μ1 => exact fun w' H' dx le ok2 ex => p' w' H' dx (Wd.trans le1 le) ok2 ex
      | ok d μ1 =>
        rw [R.ok_bind] at p'
        intro w' v H' le ok2 rv2
        have e1' := le.2.1 _ _ cθ
        have le2 := Wd.trans le1 le
        split at p'
        · rename_i c' ns xs hm
          have ev : v = .non := by
            rcases rv2 with ⟨n, a, z, _⟩ | ⟨_, z⟩
            · cases z
            · cases z; rfl
          refine ⟨ev, ?_⟩
          obtain ⟨⟨dx', fs, q1, q2, q3⟩, _⟩ := ok2.cel _ _ _ e1' hm
          match kind, hk2, p' with
          | 0, _, p' =>
            obtain ⟨o1, l1⟩ := ok2.frzc e1' hm (by simp) (Nat.le_refl _) q1
            exact p' _ (.ref (s.heap.objs.size + 1)) H' (Wd.trans (cut_le le2 (by omega)) l1) o1 (.inr ⟨rfl, .obj upd_same q2 (Rps.mono l1.1 _ _ q3)⟩)
          | 1, _, p' => exact p' _ (.ref (s.heap.objs.size + 1)) H' le2 ok2 (.inl ⟨_, _, rfl, e1', rfl⟩)
        · exact p'.elim
    refine wpAny_call (make_map (f := Γ.fad f) I.kIn M.makes M.init (beq_iff_eq.mp M.fn) (codeAny_mono (F.run _ X.stack _ _ ⟨Value.ref (s.heap.objs.size + 1) :: us, ks.zip ws⟩ (Value.ref (s.heap.objs.size + 1) :: us') (V.ref (s.heap.objs.size + 1) :: vs') _ (WE W σ) ((S.room.mono hj).make (Γ.cls c) us (ks.zip ws)) (by
      exact S.gd) (by
      rw [S.hK]; exact I2.env0.make (Γ.cls c) us (ks.zip ws)) (hb _) (.cons rfl r') hsp) fun rr s' hq => ?_))
    cases rr with
    | error e => exact S.pa σ pins _ _ e s' I2 hq
    | ok fl =>
      cases fl with
      | ret u =>
        obtain ⟨v, H', I3, rv, ev, q3⟩ := I2.after hq
        subst ev
        exact ⟨rv, ⟨V.ref (s.heap.objs.size + 1), H', I3, rfl, q3⟩⟩
      | next => exact False.elim hq
      | brk => exact False.elim hq
      | cont => exact False.elim hq
theorem s_mk {c f : Nat} {ps ks : List Str} {pm : List Nat} {es : List Expr} {kws : List Keyword} {xs ys : List E} {x : Str} {p pos : Pos} (S : Sx Γ C k X W) (M : MkOk Γ X.prog X.w X.mg X.base k (cx.mkc c) c f ps) (hp : pmOk (xs.length + 1) ks ps (0 :: pm.map (· + 1)) = true)
    (hx : C.glo x = some (.cls c)) (hes : es.all notSt = true) (hks : kws.map (·.arg) = ks.map some) (hys : ys.length = ks.length) (hxs : (xs.all fun x => !x.isSt) = true) (hyt : (ys.all fun x => !x.isSt) = true) (hnil : es = [] → xs = [])
    (ha : PA X es (rdA Γ W (evs cx xs))) (hkw : PK X kws (rdA Γ W (evs cx ys))) : PE X (.Call (.Name x p) es kws pos) (rdE Γ W (ev cx (.mk c (xs ++ ys) pm))) := by
  obtain ⟨h1, h2, h4, _⟩ := S.glo hx
  obtain ⟨⟨kind, g, j, hk2, hm, hj, F⟩, MK⟩ := M
  rw [S.hK] at MK
  refine ⟨fun pins s σ H Q I h => ?_⟩
  refine wpAny_Call_Name_kw (ld_glob I h1 h2 ?_ h4)
  have hr : rdA Γ W (evs cx (xs ++ ys)) σ H fun vs H1 => vs.length = xs.length + ys.length ∧ RO Γ W σ vs (fun ds μ => makeP cx c pm ds μ) H1 Q := by
    obtain ⟨w, ρ, μ, ds, g, rv, p⟩ := h
    refine ⟨w, ρ, μ, [], g, trivial, ?_⟩
    simp only [ev_mk] at p
    dsimp only
    cases e : evs cx (xs ++ ys) ρ μ with
    | ok a μ1 =>
      rw [e, R.ok_bind] at p
      exact fun w1 vs H1 le ok ra => ⟨by rw [ra.len, evs_len (by rw [List.all_append, hxs, hyt]; rfl) e, List.length_append], w1, μ1, a, ok, ra, postE.mono le p⟩
    | exc c ns vs μ1 => rw [e] at p; exact p
    | stuck => rw [e] at p; exact p
  refine args_all MK.kp hes hks hxs hnil ha hkw I hr fun us ws vs zs s' H' I' r rz l1 ⟨l2, ro⟩ => ?_
  refine run_mk (pm := pm) S hk2 hj F MK hp I' r rz l1 (by rw [List.length_append] at l2; omega) ?_
  obtain ⟨w, μ, ds, ok, rv, p⟩ := ro
  refine ⟨w, μ, ds, ok, rv, ?_⟩
  unfold makeP at p
  dsimp only at p ⊢
  cases e : perm pm ds with
  | none => rw [e] at p; exact p
  | some es2 =>
    rw [e] at p
    dsimp only at p ⊢
    rw [hm] at p
    exact p
/-! ### methods -/
theorem meth_eq {o : Expr} {name : Str} {apos pos : Pos} {args : List Expr} {kws : List Keyword} {env : Env} (hb : baseOk o = true) (hf : methodCallForm (args.length + kws.length) (backTo pos (starEach args env)) (backToKw pos (keywordEach kws env)) = true) (hl : (apos.endLine == pos.line) = true) :
    eval (.Call (.Attribute o name apos) args kws pos) env = (do
      let ov ← eval o env
      standAt apos.atName
      let (f, first) ← holding [ov] (getMethod ov name (do return (← importBound o env).getD true))
      callWith pos f first (backTo pos (starEach args env)) (backToKw pos (keywordEach kws env))) := by
  show (do
    let ov ← attributeBase o name env (eval o env)
    standAt apos.atName
    methodCall o name apos pos env ov (args.length + kws.length) (backTo pos (starEach args env)) (backToKw pos (keywordEach kws env))) = _
  rw [base_eq hb]
  unfold methodCall
  rw [hf]
  unfold calleeOf methodCallPos
  simp only [hl, Bool.or_true, if_true]
  rfl
theorem form_ok {es : List Expr} {kws : List Keyword} {ks : List Str} {pos : Pos} {env : Env} (hes : es.all notSt = true) (hks : kws.map (·.arg) = ks.map some) (hl : es.length + kws.length < 28) : methodCallForm (es.length + kws.length) (backTo pos (starEach es env)) (backToKw pos (keywordEach kws env)) = true := by
  obtain ⟨q1, q2, q3⟩ := kw_facts (pos := pos) (env := env) hks
  have h1 : (backTo pos (starEach es env)).any (·.1) = false := bt_plain hes
  have h2 : (backTo pos (starEach es env)).all (fun x => !x.1) = true := by
    rw [List.all_eq_not_any_not]
    simp only [Bool.not_not]
    rw [h1]; rfl
  unfold methodCallForm
  rw [h2, q1, Bool.true_and, Bool.true_and]
  exact decide_eq_true (by split <;> omega)
/-- a method of a class -/
structure MtK (Γ : Glob) (c m f : Nat) : Prop where
  cls : Cls Γ.K (Γ.cls c)
  me : Meth Γ.K (Γ.cls c) (Γ.nm m) (Γ.fad f)
  inj : ∀ n, Γ.nm n = Γ.nm m → n = m
theorem look_no {m : Nat} (hi : ∀ n, Γ.nm n = Γ.nm m → n = m) : ∀ {fs : List (Str × V)} {ns : List Nat}, fs.map (·.1) = ns.map Γ.nm → m ∉ ns → fs.lookup (Γ.nm m) = none
  | [], ns, _, _ => rfl
  | (x, v) :: fs, [], e, _ => by cases e
  | (x, v) :: fs, n :: ns, e, h => by
    rw [List.map_cons, List.map_cons] at e
    injection e with e1 e2
    have e1 : x = Γ.nm n := e1
    subst e1
    have hn : n ≠ m := fun z => h (by rw [z]; exact List.mem_cons_self)
    have : (Γ.nm m == Γ.nm n) = false := by
      rw [beq_eq_false_iff_ne]
      exact fun z => hn (hi n z.symm)
    rw [List.lookup_cons, this]
    exact look_no hi e2 fun z => h (List.mem_cons_of_mem _ z)
theorem met_at {m f : Nat} {d : D} {v : V} (ok : OkW Γ w μ H) (r : Rv Γ w v d) (h : metF cx m d μ = some f) : ∃ (c : Nat) (i : ClsI) (a dx : Addr) (fs : List (Str × V)) (ns : List Nat), cx.T.cl c = some i ∧ i.meths.lookup m = some f ∧ v = .ref a ∧ H a = some (.ins (Γ.cls c) dx fs) ∧ fs.map (·.1) = ns.map Γ.nm ∧ m ∉ ns := by
  unfold metF at h
  cases e : insOf μ d with
  | none => rw [e] at h; cases h
  | some cn =>
    obtain ⟨c, ns⟩ := cn
    rw [e] at h
    dsimp only at h
    split at h
    · cases h
    · rename_i hm
      unfold methOf at h
      split at h
      · rename_i i hi
        have key : ∃ a dx fs, v = .ref a ∧ H a = some (.ins (Γ.cls c) dx fs) ∧ fs.map (·.1) = ns.map Γ.nm := by
          rcases r with ⟨n, a, rfl, e2, e3⟩ | ⟨_, r⟩
          · unfold insOf at e
            dsimp only at e
            split at e
            · rename_i c2 ns2 xs hx
              cases e
              obtain ⟨⟨dx, fs, q1, q2, q3⟩, _⟩ := ok.cel n a _ e2 hx
              exact ⟨a, dx, fs, e3, q1, q2⟩
            · cases e
          · cases r with
            | obj h1 h2 h3 =>
              cases e
              exact ⟨_, _, _, rfl, ok.frz _ _ h1, h2⟩
            | _ => cases e
        obtain ⟨a, dx, fs, q1, q2, q3⟩ := key
        exact ⟨c, i, a, dx, fs, ns, hi, h, q1, q2, q3, hm⟩
      · cases h
theorem s_mth {m : Nat} {name : Str} {ks : List Str} {pm : List Nat} {o : Expr} {es : List Expr} {kws : List Keyword} {x : E} {xs ys : List E} {apos pos : Pos} (S : Sx Γ C k X W)
    (MT : ∀ c i f, cx.T.cl c = some i → i.meths.lookup m = some f → MtK Γ c m f ∧ ∃ ps j, j ≤ k ∧ FOk Γ X.prog X.w X.mg X.base j (cx.cf f) f ps ∧ pmOk (xs.length + 1) ks ps pm = true)
    (hm : Γ.nm m = name) (hb : baseOk o = true) (hl : es.length + kws.length < 28) (hline : (apos.endLine == pos.line) = true) (hx : x.isSt = false) (he : PE X o (rdE Γ W (ev cx x))) (hes : es.all notSt = true) (hks : kws.map (·.arg) = ks.map some) (hys : ys.length = ks.length) (hxs : (xs.all fun x => !x.isSt) = true) (hyt : (ys.all fun x => !x.isSt) = true) (hnil : es = [] → xs = [])
    (ha : PA X es (rdA Γ W (evs cx xs))) (hkw : PK X kws (rdA Γ W (evs cx ys))) : PE X (.Call (.Attribute o name apos) es kws pos) (rdE Γ W (ev cx (.mth m x (xs ++ ys) pm))) := by
  subst hm
  refine ⟨fun pins s σ H Q I h => ?_⟩
  refine PySem.W.methodCall_KW (thn (he.run pins s σ H (fun v H1 => ∃ w ρ μ d f, Good Γ w ρ μ σ H1 ∧ Rv Γ w v d ∧ metF cx m d μ = some f ∧ postE Γ W σ w Q ((evs cx (xs ++ ys) ρ μ).bind fun vs μ => callP cx f pm (d :: vs) μ)) I ?_) fun ov s1 ⟨v, H1, I1, rx, w, ρ, μ, d, f, g, rv, hm, p⟩ => ?_) (meth_eq hb (form_ok hes hks hl) hline)
  · obtain ⟨w, ρ, μ, ds, g, rv, p⟩ := h
    refine ⟨w, ρ, μ, [], g, trivial, ?_⟩
    dsimp only at p ⊢
    rw [ev_mth] at p
    generalize ev cx x ρ μ = r at p ⊢
    cases r with
    | ok d μ1 =>
      intro w1 v H1 le ok rv1
      rw [R.ok_bind] at p
      cases e : metF cx m d μ1 with
      | none => rw [e] at p; exact p.elim
      | some f =>
        rw [e] at p
        exact ⟨w1, ρ, μ1, d, f, ⟨g.st.mono le, ok⟩, rv1, e, postE.mono le p⟩
    | exc c ns xs μ1 => exact p
    | stuck => exact p
  · obtain ⟨c, i, a, dx, fs, ns, hc, hlk, rfl, ea, hfs, hns⟩ := met_at g.ok rv hm
    cases rx
    obtain ⟨MK, ps, j, hj, F, hp⟩ := MT c i f hc hlk
    have hK := S.hK
    have cl := MK.cls
    have me := MK.me
    rw [hK] at cl me
    refine getmeth_ok I1 ea cl me (look_no MK.inj hfs hns) ?_
    have hr : rdA Γ W (evs cx (xs ++ ys)) σ H1 fun vs H2 => vs.length = xs.length + ys.length ∧ RO Γ W σ (.ref a :: vs) (fun ds μ => callP cx f pm ds μ) H2 Q := by
      refine ⟨w, ρ, μ, [], g, trivial, ?_⟩
      dsimp only
      cases e : evs cx (xs ++ ys) ρ μ with
      | ok b μ1 =>
        rw [e, R.ok_bind] at p
        exact fun w1 vs H1 le ok ra => ⟨by rw [ra.len, evs_len (by rw [List.all_append, hxs, hyt]; rfl) e, List.length_append], w1, μ1, d :: b, ok, ⟨rv.mono le, ra⟩, postE.mono le p⟩
      | exc c ns vs μ1 => rw [e] at p; exact p
      | stuck => rw [e] at p; exact p
    refine args_all (first := [.ref a]) me.kp hes hks hxs hnil ha hkw I1 hr fun us ws vs zs s' H' I' r rz l1 ⟨l2, ro⟩ => ?_
    exact run_G (g := cx.cf f) (n := xs.length + 1) S hj F hp (us := .ref a :: us) (vs := .ref a :: vs) I' (.cons rfl r) rz (by rw [List.length_cons, l1]) (by rw [List.length_append] at l2; omega) ro
/-! ### o.f = e -/
theorem put_ok {f : Nat} {v : V} {d : D} {Φ : Hp} (hi : ∀ n, Γ.nm n = Γ.nm f → n = f) (r : Rp Γ Φ v d) : ∀ {fs : List (Str × V)} {ns : List Nat} {xs : List D}, fs.map (·.1) = ns.map Γ.nm → Rps Γ Φ (fs.map (·.2)) xs →
    (putF (Γ.nm f) v fs).map (·.1) = (put ns xs f d).1.map Γ.nm ∧ Rps Γ Φ ((putF (Γ.nm f) v fs).map (·.2)) (put ns xs f d).2
  | [], [], xs, _, rr => by
    cases rr
    exact ⟨rfl, .cons r .nil⟩
  | [], _ :: _, xs, e, _ => by cases e
  | _ :: _, [], xs, e, _ => by cases e
  | (x, u) :: fs, n :: ns, xs, e, rr => by
    rw [List.map_cons, List.map_cons] at e
    injection e with e1 e2
    have e1 : x = Γ.nm n := e1
    subst e1
    cases rr with
    | cons r1 r2 =>
      unfold putF put
      by_cases hn : n = f
      · subst hn
        rw [if_pos rfl, if_pos rfl]
        exact ⟨by simpa using e2, .cons r r2⟩
      · have hn2 : ¬ Γ.nm n = Γ.nm f := fun z => hn (hi n z)
        rw [if_neg hn2, if_neg hn]
        obtain ⟨q1, q2⟩ := put_ok hi r e2 r2
        exact ⟨by simpa using q1, .cons r1 q2⟩
theorem ss_stf (S : Sx Γ C k X W) (Q0 : ClOk Γ cx.T) {o e : Expr} {ox x : E} {f : Str} {n : Nat} {pos pos' : Pos} (hf : Γ.nm n = f) (ho : PE X o (rdE Γ W (ev cx ox))) (ha : PE X e (rdE Γ W (ev cx x))) (hs : swapsWith e (some (.Attribute o f pos')) pos.line X.env = pure false) :
    PS X (.Assign [.Attribute o f pos'] e pos) (rdS Γ W (ex cx (.stf ox n x))) := by
  subst hf
  refine ⟨fun pins s σ H Z I h => (ps_fld ho ha hs).run pins s σ H Z I ?_⟩
  let K : List D → Rho → Mu → R F := fun ds ρ μ => match ds with
    | [d, .cell n0] => (match μ[n0]? with
      | some (.ins c ns vs) => if d.isCell then .stuck else if ns.length < 900 ∧ hasF cx false c n = true then .ok (.nx ρ) (μ.set n0 (.ins c (put ns vs n d).1 (put ns vs n d).2)) else .stuck
      | _ => .stuck)
    | _ => .stuck
  have h1 : RDS Γ W [] (fun ds ρ μ => (ev cx x ρ μ).bind fun d μ => (ev cx ox ρ μ).bind fun y μ => K (ds ++ [d] ++ [y]) ρ μ) Z σ H := by
    obtain ⟨w, ρ, μ, ds, g, rv, p⟩ := h
    refine ⟨w, ρ, μ, [], g, trivial, ?_⟩
    have e : ex cx (.stf ox n x) ρ μ = (ev cx x ρ μ).bind fun d μ => (ev cx ox ρ μ).bind fun y μ => K ([] ++ [d] ++ [y]) ρ μ := by
      show (ev cx x ρ μ).bind _ = _
      congr 1
      funext d μ
      congr 1
      funext y μ
      cases y <;> rfl
    have p' : postS Γ W w Z (ex cx (.stf ox n x) ρ μ) := p
    rw [e] at p'; exact p'
  refine rdE.mono (RDS.eval (f := fun ds ρ μ => (ev cx ox ρ μ).bind fun y μ => K (ds ++ [y]) ρ μ) h1) fun v H1 h2 => ?_
  refine rdE.mono (RDS.eval (f := K) h2) fun u H2 h3 => ?_
  obtain ⟨w, ρ, μ, ds, g, rv, p⟩ := h3
  match ds, rv with
  | [d, y], ⟨r1, r2, _⟩ =>
    cases y <;> first | (exact p.elim) | skip
    rename_i n0
    have p' : postS Γ W w Z (match μ[n0]? with
      | some (.ins c ns vs) => if d.isCell then .stuck else if ns.length < 900 ∧ hasF cx false c n = true then .ok (.nx ρ) (μ.set n0 (.ins c (put ns vs n d).1 (put ns vs n d).2)) else .stuck
      | _ => .stuck) := p
    rcases r2 with ⟨n1, a, e1, e2, e3⟩ | ⟨z, _⟩
    · cases e1
      split at p'
      · rename_i c ns vs hm
        split at p'
        · exact p'.elim
        · rename_i hd
          split at p'
          · rename_i hh
            obtain ⟨hl, hF⟩ := hh
            obtain ⟨i, hi, hmem, _, hk⟩ := hasF_ok hF
            have K0 := Q0.fdk c i hi (Nat.le_of_lt (hk rfl))
            have O := Q0.obj c i hi (hk rfl)
            have hK := S.hK
            obtain ⟨⟨dx, fs, q1, q2, q3⟩, hΦ⟩ := g.ok.cel n0 a _ e2 hm
            have rd := r1.rp (by simpa using hd)
            obtain ⟨z1, z2⟩ := put_ok (K0.inj n hmem) rd q2 q3
            refine ⟨a, Γ.cls c, dx, fs, e3, q1, by rw [← hK]; exact O.cls, by rw [← hK]; exact K0.nof n hmem, ?_, ?_⟩
            · have e : (fs.map (·.1)).length = (ns.map Γ.nm).length := by rw [q2]
              rw [List.length_map, List.length_map] at e
              omega
            · exact p' w _ _ w.refl ⟨g.st, g.ok.write e2 hm (by simp) ⟨dx, _, upd_same, z1, z2⟩⟩
          · exact p'.elim
      · exact p'.elim
    · cases z
end
end KP
end

section
set_option maxRecDepth 100000
set_option maxHeartbeats 4000000
/-! KPE: == and != of instances with their own __eq__. -/
namespace KP
open PySem PySem.Spec PyProof.Rows L2
section
open PySem.W
variable {prog : Program} {w : World} {A : Around} {E : Value → Shared → Prop} {s : Shared} {K : Frag} {x C f L : Addr} {h₀ : Heap} {m : Str → Option Value} {ox : Obj} {od : Option Obj} {b tb : Value}
theorem ifBound_B {M : Model} {name : Str} {id : String} {args : List Value} {Q : Option Value → Shared → Prop} (X : K.In s.heap) (I : InstAt s.heap x ox C od) (hs : findIn K (.ref C) name = some (some (.builtin id)))
    (hb : ∀ self, bindSpecial (.builtin id) self = pure (.builtin id, [self]))
    (h : wpAny M A (call (.builtin id) (.ref x :: args)) (fun v => Q (some v)) E s) : wpAny M A (callSpecialIfBound? (.ref x) name args) Q E s := by
  simp only [callSpecialIfBound?, bindSpecialIfBound?]
  refine wpAny_holding (wpAny_bind (wpAny_bind (wpAny_bind (I.type.here ((looks_findIn X hs).here ?_)))))
  refine wpAny_bind (wpAny_askSetting (wpAny_ite ?_))
  have fin : wpAny M A (call (.builtin id) ([.ref x] ++ args) >>= fun v => pure (some v)) Q E s := wpAny_bind (wpAny_mono h (fun v s' h' => wpAny_pure h') fun _ _ h' => h')
  split
  · exact wpAny_bind ((Looks.of_pure (hb _)).here (wpAny_pure (by exact fin)))
  · exact wpAny_tryCatch (wpAny_bind ((Looks.of_pure (hb _)).here (wpAny_pure (by exact fin))))
open Builtin in
theorem ne_slot {Q : Value → Shared → Prop} (hu : A.in1.units < cLine) (X : K.In s.heap) (I : InstAt s.heap x ox C od) (hm : mroIn K C (.type "object") = some true) (he : findIn K (.ref C) "__eq__" = some (some (.ref f))) (hf : isFn K (.ref f) = true)
    (h : wpAny (model prog w) A.in1 (call (.ref f) [.ref x, b]) (fun v s' => ∃ k, v = .bool k ∧ Q (.bool (!k)) s') E s) : wpAny (model prog w) A (call (.builtin "object.__ne__") [.ref x, b]) Q E s := by
  refine wpAny_call (codeAny_call_builtin PySem.F.slot_object_ne.plain PySem.F.cmpEntry_ne (check_slot (i := "object.__ne__") (owner := "object") (n := "__ne__") (by decide +kernel) (by decide +kernel) (I.type.andThen (looks_mroIn X hm)) (PySem.F.cmpArgs_ne _ _) ?_))
  unfold Builtin.«object.__ne__»
  refine wpAny_bind (m := slotArgs "__ne__" 1 _) (wpAny_pure ?_)
  refine wpAny_bind (m := cRoomFor _ _) (wpAny_cRoomFor hu ?_)
  refine wpAny_bind (m := callSpecialIfBound? (.ref x) (Str.ofString "__eq__") _) (ifBound_K X I he hf (wpAny_mono h (fun r s' hq => ?_) fun _ _ y => y))
  obtain ⟨k, rfl, hq⟩ := hq
  exact wpAny_bind (m := truthy (.bool k)) (wpAny_truthy_bool (wpAny_pure hq))
theorem ne_K {Q : Value → Shared → Prop} (hu : A.units < cLine) (hu1 : A.in1.units < cLine) (F : Fr h₀ L s.heap m) (X₀ : K.In h₀) (I : InstAt s.heap x ox C od) (hb : Looks (model prog w) s.heap (typeOf b) tb) (hn : notFirst K C tb = true)
    (hs : findIn K (.ref C) "__ne__" = some (some (.builtin "object.__ne__"))) (hm : mroIn K C (.type "object") = some true) (he : findIn K (.ref C) "__eq__" = some (some (.ref f))) (hf : isFn K (.ref f) = true)
    (h : wpAny (model prog w) A.in1 (call (.ref f) [.ref x, b]) (fun v s' => ∃ k, v = .bool k ∧ Q (.bool (!k)) s') E s) : wpAny (model prog w) A (richCompare .NotEq (.ref x) b) Q E s := by
  have X := X₀.keeps F.keep
  have one : wpAny (model prog w) A (tryCompare (.ref x) (cmpInfo .NotEq).2.1 b) (fun r s' => ∃ v, r = some v ∧ Q v s') E s := by
    unfold tryCompare
    refine wpAny_bind (ifBound_B X I hs PySem.F.slot_object_ne.bind (ne_slot hu1 X I hm he hf (wpAny_mono h (fun v s' hv => ?_) fun _ _ e => e)))
    obtain ⟨k, rfl, hq⟩ := hv
    exact ⟨k, rfl, wpAny_pure ⟨_, rfl, hq⟩⟩
  unfold richCompare
  simp only [oneThing_ref]
  refine wpAny_holding (wpAny_bind (wpAny_cRoomFor hu ?_))
  refine wpAny_bind (I.type.here (wpAny_bind (hb.here ?_)))
  split
  · rename_i q
    have e : subIn K tb (.ref C) = some false := by
      rcases Bool.or_eq_true_iff.mp hn with e | e
      · rw [beq_iff_eq.mp e] at q; simp at q
      · exact beq_iff_eq.mp e
    refine wpAny_bind ((looks_subIn X e).here ?_)
    simp only [Bool.false_eq_true, if_false]
    refine wpAny_bind (wpAny_mono one (fun r s' z => ?_) fun _ _ e => e)
    obtain ⟨v, rfl, hq⟩ := z
    exact wpAny_pure hq
  · refine wpAny_bind (wpAny_pure ?_)
    simp only [Bool.false_eq_true, if_false]
    refine wpAny_bind (wpAny_mono one (fun r s' z => ?_) fun _ _ e => e)
    obtain ⟨v, rfl, hq⟩ := z
    exact wpAny_pure hq
end
end KP
namespace KP
open PySem PySem.Spec PyProof.Rows L2
section
variable {Γ : Glob} {X : Cx} {W : WX} {cx : Cxt} {C : Cv} {k : Nat} {w : Wd} {H : Hp} {μ : Mu} {σ0 : St}
/-- the callee runs, a few calls of the language's own deeper -/
theorem run_GA {g : List D → Mu → R D} {f : Nat} {ps : List Str} {pm : List Nat} {n : Nat} (S : Sx Γ C k X W) {A : Around} {j : Nat} (hr : Room j A) (hg : A.guards = some []) (F : FOk Γ X.prog X.w X.mg X.base j g f ps) (hp : pmOk n [] ps pm = true) {pins : List (Addr × Obj)} {σ : St} {H : Hp} {s : Shared} {Q : VK} {us : List Value} {vs : List V}
    (e0 : Env0 X.prog X.w X.K X.mg X.base A X.stack s H) (I : Inv X pins σ H s) (r : Vals vs us) (hn : vs.length = n) (h : RO Γ W σ vs (fun ds μ => match perm pm ds with
      | some ws => g ws μ
      | none => .stuck) H Q) : wpAny (model X.prog X.w) A (call (.ref (Γ.fad f)) us) (EP X pins σ Q) X.xe s := by
  obtain ⟨fd, hfd, hkp, F, _⟩ := F
  obtain ⟨w, μ, ds, ok, rv, p⟩ := h
  dsimp only at p
  rw [perm_eq] at p
  cases e : permA pm ds with
  | none => rw [e] at p; exact p.elim
  | some es =>
    rw [e] at p
    obtain ⟨vs', e1, rv'⟩ := rv.perm pm es e
    obtain ⟨us', e2, r'⟩ := vals_perm r pm vs' e1
    have hb := bind_pm (ps := ps) (ks := []) (pm := pm) (us := us) (ws := []) hfd (by rw [← r.length, hn]; exact hp) rfl (by rw [List.append_nil]; exact e2) s
    have hsp : spI Γ g vs' H Q (WE W σ) := ⟨w, μ, es, ok, rv', by
      have p' : postE Γ W σ w Q (g es μ) := p
      clear p
      revert p'
      generalize g es μ = rr
      intro p
      cases rr with
      | ok d μ1 => exact p
      | exc c ns xs μ1 => exact p
      | stuck => exact p⟩
    refine wpAny_call (codeAny_mono (F.run A X.stack s H _ us' vs' Q (WE W σ) hr hg (by rw [S.hK]; exact e0) hb r' hsp) fun rr s' hq => ?_)
    cases rr with
    | error e => exact S.pa σ pins H s e s' I hq
    | ok fl =>
      cases fl with
      | ret u => exact I.after hq
      | next => exact False.elim hq
      | brk => exact False.elim hq
      | cont => exact False.elim hq
/-- a class with its own == -/
structure EqK (Γ : Glob) (T : Tab) (P : Program) (w : World) (mg : Str → Option Value) (base : Heap) (k : Nat) (cf : List D → Mu → R D) (c f : Nat) : Prop where
  hs : PySem.W.findIn Γ.K (.ref (Γ.cls c)) "__eq__" = some (some (.ref (Γ.fad f)))
  hf : PySem.W.isFn Γ.K (.ref (Γ.fad f)) = true
  nb : ∀ n ∈ baseNames, PySem.W.notFirst Γ.K (Γ.cls c) (.type n) = true
  nc : ∀ t j, T.cl t = some j → j.kind < 2 → PySem.W.notFirst Γ.K (Γ.cls c) (.ref (Γ.cls t)) = true
  hn : PySem.W.findIn Γ.K (.ref (Γ.cls c)) "__ne__" = some (some (.builtin "object.__ne__"))
  hm : PySem.W.mroIn Γ.K (Γ.cls c) (.type "object") = some true
  fok : ∃ ps j, j + 1 ≤ k ∧ FOk Γ P w mg base j cf f ps ∧ pmOk 2 [] ps [0, 1] = true
/-- its type, by what it is -/
theorem typ_of (Q : ClOk Γ cx.T) (ok : OkW Γ w μ H) {v : V} {d : D} (r : Rv Γ w v d) (h : tyKn cx (nrm μ d) = true) : ∃ tv, TyK Γ.K H v tv ∧ ((∃ n ∈ baseNames, tv = .type n) ∨ ∃ t j, cx.T.cl t = some j ∧ j.kind < 2 ∧ tv = .ref (Γ.cls t)) := by
  rcases r with ⟨n, a, rfl, e2, rfl⟩ | ⟨_, r⟩
  · cases hm : μ[n]? with
    | none => simp only [nrm, hm] at h; cases h
    | some m =>
      obtain ⟨q, _⟩ := ok.cel n a m e2 hm
      cases m with
      | lst xs =>
        obtain ⟨vs, q1, _⟩ := q
        exact ⟨.type "list", .old (.base (.lst q1)), .inl ⟨_, by decide, rfl⟩⟩
      | dct ks xs => simp only [nrm, hm] at h; cases h
      | ins c ns xs => simp only [nrm, hm] at h; cases h
      | lsc xs => simp only [nrm, hm] at h; cases h
      | dead => simp only [nrm, hm] at h; cases h
  · cases r with
    | non => exact ⟨.type "NoneType", .old (.base .non), .inl ⟨_, by decide, rfl⟩⟩
    | bl x => exact ⟨.type "bool", .old (.base (.bl x)), .inl ⟨_, by decide, rfl⟩⟩
    | int x => exact ⟨.type "int", .old (.base (.int x)), .inl ⟨_, by decide, rfl⟩⟩
    | str x => exact ⟨.type "str", .old (.base (.str x)), .inl ⟨_, by decide, rfl⟩⟩
    | lst a b c => exact ⟨.type "list", .old (.base (.lst (ok.frz _ _ a))), .inl ⟨_, by decide, rfl⟩⟩
    | tup a b c _ =>
      refine ⟨.type "tuple", ?_, .inl ⟨_, by decide, rfl⟩⟩
      rcases a with (a | ⟨o, a⟩) | ⟨o, its, n, a1, a2, _⟩
      · exact .old (.base (.tup (ok.frz _ _ a)))
      · exact .old (.fTuple (ok.frz _ _ a))
      · exact .old (.kTuple a1 a2)
    | dct a b => exact ⟨.type "dict", .old (.base (.dK (ok.frz _ _ a))), .inl ⟨_, by decide, rfl⟩⟩
    | @obj a dx fs c ns xs e1 e2 e3 =>
      have h' : (match cx.T.cl c with | some i => decide (i.kind < 2) | none => false) = true := h
      cases hc : cx.T.cl c with
      | none => rw [hc] at h'; cases h'
      | some i =>
        rw [hc] at h'
        have hk := of_decide_eq_true h'
        have O := Q.obj c i hc hk
        exact ⟨_, .old (.base (.ins (ok.frz _ _ e1) O.cls O.ha O.hn O.ht O.hm)), .inr ⟨c, i, hc, hk, rfl⟩⟩
    | exn e1 e2 _ _ => cases h
    | fn f => cases h
    | scr a => cases h
/-- == and != where one side is an instance with its own == -/
theorem obj_cmp (S : Sx Γ C k X W) (Q0 : ClOk Γ cx.T) {c f : Nat} {σ : St} (E0 : EqK Γ cx.T X.prog X.w X.mg X.base k (cx.cf f) c f) {pins : List (Addr × Obj)} {s : Shared} {x y : V} {v u : Value} (I : Inv X pins σ H s) (rx : RelV x v) (ry : RelV y u) (ok : OkW Γ w μ H) {ns : List Nat} {vs : List D} {b : D}
    (ra : Rv Γ w x (.obj c ns vs)) (rb : Rv Γ w y b) (hk : tyKn cx (nrm μ b) = true) (neg : Bool) {Q : VK} (p : postE Γ W σ0 w Q ((cx.cf f [.obj c ns vs, b] μ).calm.bind fun r μ => match r with
      | .bl k => .ok (.bl (xor neg k)) μ
      | _ => .stuck)) : wpAny (model X.prog X.w) X.A (richCompare (if neg then .NotEq else .Eq) v u) (EP X pins σ Q) X.xe s := by
  obtain ⟨tv, ty, hty⟩ := typ_of Q0 ok rb hk
  have hK := S.hK
  have hs := E0.hs
  have hf := E0.hf
  have hn := E0.hn
  have hm := E0.hm
  have nf : PySem.W.notFirst Γ.K (Γ.cls c) tv = true := by
    rcases hty with ⟨n, h1, rfl⟩ | ⟨t, j, h1, h2, rfl⟩
    · exact E0.nb n h1
    · exact E0.nc t j h1 h2
  rw [hK] at hs hf hn hm nf ty
  obtain ⟨ps, j, hj, F, hp⟩ := E0.fok
  rcases ra with ⟨n, a, z, _⟩ | ⟨_, ra⟩
  · cases z
  obtain ⟨a, dx, fs, rfl, ea⟩ : ∃ a dx fs, x = .ref a ∧ H a = some (.ins (Γ.cls c) dx fs) := by
    cases ra with
    | obj h1 h2 h3 => exact ⟨_, _, _, rfl, ok.frz _ _ h1⟩
  have ra' : Rv Γ w (.ref a) (.obj c ns vs) := .inr ⟨rfl, ra⟩
  cases rx
  obtain ⟨mA, J, _⟩ := ins_get I.hok ea
  obtain ⟨od, J, _⟩ := J.look
  obtain ⟨m, hF⟩ := I.fr
  obtain ⟨P0, Z, hp0, _⟩ := kitK I ry ty
  have hb := Z.ty (model X.prog X.w) s.heap I.kIn hp0
  have key : ∀ (A : Around), Room j A → A.guards = some [] → Env0 X.prog X.w X.K X.mg X.base A X.stack s H → wpAny (model X.prog X.w) A (call (.ref (Γ.fad f)) [.ref a, u]) (EP X pins σ fun z H' => ∃ k, z = .bl k ∧ Q (.bl (xor neg k)) H') X.xe s := by
    intro A hr hg e0
    refine run_GA (g := cx.cf f) (n := 2) S hr hg F hp e0 I (.cons (show RelV (V.ref a) (Value.ref a) from rfl) (.cons ry .nil)) rfl ?_
    refine ⟨w, μ, [.obj c ns vs, b], ok, ⟨ra', rb, trivial⟩, ?_⟩
    show postE Γ W σ w _ (cx.cf f [.obj c ns vs, b] μ)
    generalize cx.cf f [.obj c ns vs, b] μ = r at p ⊢
    cases r with
    | stuck => exact p
    | exc c ns xs μ1 => exact p.elim
    | ok d μ1 =>
      intro w' z H' le ok' rz
      obtain ⟨b0, rfl⟩ : ∃ b0, d = .bl b0 := by cases d <;> first | exact ⟨_, rfl⟩ | exact p.elim
      exact ⟨b0, rz.bl_, p w' (.bl (xor neg b0)) H' le ok' (.val (.bl _))⟩
  have rm := S.room.mono hj
  cases neg with
  | false =>
    refine PySem.W.cmp_K (op := .Eq) (tb := tv) S.room.units0 hF I.ok.mod.kin J hb nf hs hf (wpAny_mono (key X.A (S.room.mono (by omega)) S.gd I.env0) (fun z s' hz => ?_) fun _ _ e => e)
    obtain ⟨z', H', I', rz, k, rfl, hq⟩ := hz
    have ez : z = .bool k := rz
    subst ez
    have : Q (.bl k) H' := by simpa using hq
    exact ⟨.bl k, H', I', rfl, this⟩
  | true =>
    refine ne_K S.room.units0 rm.in1.units0 hF I.ok.mod.kin J hb nf hn hm hs hf (wpAny_mono (key X.A.in1 rm.in1 S.gd I.env0.in1) (fun z s' hz => ?_) fun _ _ e => e)
    obtain ⟨z', H', I', rz, k, rfl, hq⟩ := hz
    have ez : z = .bool k := rz
    subst ez
    have : Q (.bl (!k)) H' := by simpa using hq
    exact ⟨k, rfl, .bl (!k), H', I', rfl, this⟩
end
end KP
namespace KP
open PySem PySem.Spec PyProof.Rows L2
section
variable {Γ : Glob} {X : Cx} {W : WX} {cx : Cxt} {C : Cv} {k : Nat} {w : Wd} {H : Hp} {μ : Mu} {σ0 : St}
theorem nrm_obj {a : D} {c : Nat} {ns : List Nat} {vs : List D} (h : nrm μ a = .obj c ns vs) : a = .obj c ns vs := by
  cases a <;> first | (cases h; done) | (exact h) | skip
  rename_i n
  unfold nrm at h
  dsimp only at h
  split at h <;> cases h
theorem nrm_tupE {a : D} {xs : List D} (h : nrm μ a = .tup xs) : a = .tup xs := by
  cases a <;> first | (cases h; done) | (exact h) | skip
  rename_i n
  unfold nrm at h
  dsimp only at h
  split at h <;> cases h
/-- a tuple with something in it against the empty one -/
theorem tup0_cmp (hK : Γ.K = X.K) (hr : Room k X.A) (neg : Bool) {pins : List (Addr × Obj)} {s : Shared} {σ : St} {x y : V} {v u : Value} {Q : VK} (I : Inv X pins σ H s) (rx : RelV x v) (ry : RelV y u) (ok : OkW Γ w μ H) {d : D} {xs : List D} (ra : Rv Γ w x (.tup (d :: xs))) (rb : Rv Γ w y (.tup [])) (q : Q (.bl neg) H) :
    wpAny (model X.prog X.w) X.A (richCompare (if neg then .NotEq else .Eq) v u) (EP X pins σ Q) X.xe s := by
  obtain ⟨a, vs, rfl, hT, hR, _⟩ := ra.tup_ ok
  obtain ⟨b, us, rfl, hT2, hR2, _⟩ := rb.tup_ ok
  rw [hK] at hT hT2
  obtain ⟨its, r1, p1, _⟩ := I.tuple hT
  obtain ⟨its2, r2, p2, _⟩ := I.tuple hT2
  cases rx
  cases ry
  cases hR2
  cases r2
  cases hR with
  | cons h1 h2 =>
    cases r1 with
    | cons g1 g2 =>
      rename_i v0 _ u0 us0
      cases neg with
      | false =>
        refine SeqAt.RcAt.tuples (e := fun _ => true) p1 p2 hr.units0 (fun j _ z => absurd z (by simp)) X.prog X.w _ _ ?_
        exact ⟨.bl false, H, I, by simp; rfl, q⟩
      | true =>
        refine SeqAt.RcNeAt.tuples (e := fun _ => true) p1 p2 hr.units0 (fun j _ z => absurd z (by simp)) X.prog X.w _ _ ?_
        exact ⟨.bl true, H, I, by simp; rfl, q⟩
theorem eqD_cases (neg : Bool) {a b : D} {Q : VK} (hd : ¬ datTwo μ a b = true) (p : postE Γ W σ0 w Q ((eqD cx a b μ).bind fun b μ => okB (xor neg b) μ)) : (∃ d xs, a = .tup (d :: xs) ∧ b = .tup [] ∧ postE Γ W σ0 w Q (.ok (.bl neg) μ)) ∨ ∃ c ns vs f, a = .obj c ns vs ∧ methOf cx c mEq = some f ∧ tyKn cx (nrm μ b) = true ∧ postE Γ W σ0 w Q ((cx.cf f [.obj c ns vs, b] μ).calm.bind fun r μ => match r with
      | .bl k => .ok (.bl (xor neg k)) μ
      | _ => .stuck) := by
  unfold eqD at p
  split at p
  · right
    rename_i c ns vs h1
    have ea := nrm_obj h1
    subst ea
    split at p
    · rename_i f hm hk
      refine ⟨c, ns, vs, f, rfl, hm, hk, ?_⟩
      generalize (cx.cf f [.obj c ns vs, b] μ).calm = r at p ⊢
      cases r with
      | ok d μ => cases d <;> exact p
      | exc c ns vs μ => exact p
      | stuck => exact p
    · exact p.elim
  · have hd' : (dat (nrm μ a) 60 && dat (nrm μ b) 60) = false := by
      unfold datTwo at hd
      simpa using hd
    rw [hd'] at p
    dsimp only at p
    split at p
    · rename_i h1 h2
      left
      have e1 := nrm_tupE h1
      have e2 := nrm_tupE h2
      subst e1 e2
      refine ⟨_, _, rfl, rfl, ?_⟩
      have p' : postE Γ W σ0 w Q (okB (xor neg false) μ) := p
      rw [Bool.xor_false] at p'
      exact p'
    · exact p.elim
theorem eq_full (S : Sx Γ C k X W) (Q0 : ClOk Γ cx.T) (E0 : ∀ c f, methOf cx c mEq = some f → EqK Γ cx.T X.prog X.w X.mg X.base k (cx.cf f) c f) : Op2 Γ X W σ0 cx .eq (compareOp .Eq) := by
  intro pins s σ H x y v u Q I rx ry hh
  obtain ⟨w, μ, ds, ok, rv, p⟩ := hh
  obtain ⟨a, b, rfl, ra, rb⟩ := rv.two
  have p' : postE Γ W σ0 w Q ((eqD cx a b μ).bind okB) := p
  by_cases hd : datTwo μ a b = true
  · rw [eqD_dat hd, R.ok_bind] at p'
    exact o_eq_dat (W := W) (σ0 := σ0) S.hK S.room pins s σ H x y v u Q I rx ry ⟨w, μ, a, b, ok, ra, rb, hd, p'⟩
  · have e : (okB : Bool → Mu → R D) = fun b μ => okB (xor false b) μ := by
      funext b μ
      cases b <;> rfl
    rw [e] at p'
    rcases eqD_cases false hd p' with ⟨d, xs, rfl, rfl, p2⟩ | ⟨c, ns, vs, f, rfl, hm, hk, p2⟩
    · exact tup0_cmp S.hK S.room false I rx ry ok ra rb (p2.vp ok (.bl _))
    · exact obj_cmp S Q0 (E0 c f hm) I rx ry ok ra rb hk false p2
theorem ne_full (S : Sx Γ C k X W) (Q0 : ClOk Γ cx.T) (E0 : ∀ c f, methOf cx c mEq = some f → EqK Γ cx.T X.prog X.w X.mg X.base k (cx.cf f) c f) : Op2 Γ X W σ0 cx .ne (compareOp .NotEq) := by
  intro pins s σ H x y v u Q I rx ry hh
  obtain ⟨w, μ, ds, ok, rv, p⟩ := hh
  obtain ⟨a, b, rfl, ra, rb⟩ := rv.two
  have p' : postE Γ W σ0 w Q ((eqD cx a b μ).bind fun b μ => okB (!b) μ) := p
  by_cases hd : datTwo μ a b = true
  · rw [eqD_dat hd, R.ok_bind] at p'
    exact o_ne_dat (W := W) (σ0 := σ0) S.hK S.room pins s σ H x y v u Q I rx ry ⟨w, μ, a, b, ok, ra, rb, hd, p'⟩
  · have e : (fun (b : Bool) (μ : Mu) => okB (!b) μ) = fun b μ => okB (xor true b) μ := by
      funext b μ
      cases b <;> rfl
    rw [e] at p'
    rcases eqD_cases true hd p' with ⟨d, xs, rfl, rfl, p2⟩ | ⟨c, ns, vs, f, rfl, hm, hk, p2⟩
    · exact tup0_cmp S.hK S.room true I rx ry ok ra rb (p2.vp ok (.bl _))
    · exact obj_cmp S Q0 (E0 c f hm) I rx ry ok ra rb hk true p2
/-- == of two instances, wherever it is asked -/
theorem obj_eqA {k1 : Nat} (S : Sx Γ C k X W) (Q0 : ClOk Γ cx.T) {c f : Nat} {σ : St} (E0 : EqK Γ cx.T X.prog X.w X.mg X.base k1 (cx.cf f) c f) {A : Around} (hr : Room k1 A) (hg : A.guards = some []) {pins : List (Addr × Obj)} {s : Shared} (e0 : Env0 X.prog X.w X.K X.mg X.base A X.stack s H) {x y : V} {v u : Value} (I : Inv X pins σ H s) (rx : RelV x v) (ry : RelV y u) (ok : OkW Γ w μ H) {ns : List Nat} {vs : List D} {b : D}
    (ra : Rv Γ w x (.obj c ns vs)) (rb : Rv Γ w y b) (hk : tyKn cx (nrm μ b) = true) {k0 : Bool} {μ' : Mu} {Q : VK} (e : cx.cf f [.obj c ns vs, b] μ = .ok (.bl k0) μ') (p : ∀ w' H', w.le w' → OkW Γ w' μ' H' → Q (.bl k0) H') :
    wpAny (model X.prog X.w) A (richCompare .Eq v u) (EP X pins σ fun z H' => z = .bl k0 ∧ Q z H') X.xe s := by
  obtain ⟨tv, ty, hty⟩ := typ_of Q0 ok rb hk
  have hK := S.hK
  have hs := E0.hs
  have hf := E0.hf
  have nf : PySem.W.notFirst Γ.K (Γ.cls c) tv = true := by
    rcases hty with ⟨n, h1, rfl⟩ | ⟨t, j, h1, h2, rfl⟩
    · exact E0.nb n h1
    · exact E0.nc t j h1 h2
  rw [hK] at hs hf nf ty
  obtain ⟨ps, j, hj, F, hp⟩ := E0.fok
  rcases ra with ⟨n, a, z, _⟩ | ⟨_, ra⟩
  · cases z
  obtain ⟨a, dx, fs, rfl, ea⟩ : ∃ a dx fs, x = .ref a ∧ H a = some (.ins (Γ.cls c) dx fs) := by
    cases ra with
    | obj h1 h2 h3 => exact ⟨_, _, _, rfl, ok.frz _ _ h1⟩
  have ra' : Rv Γ w (.ref a) (.obj c ns vs) := .inr ⟨rfl, ra⟩
  cases rx
  obtain ⟨mA, J, _⟩ := ins_get I.hok ea
  obtain ⟨od, J, _⟩ := J.look
  obtain ⟨m, hF⟩ := I.fr
  obtain ⟨P0, Z, hp0, _⟩ := kitK I ry ty
  have hb := Z.ty (model X.prog X.w) s.heap I.kIn hp0
  refine PySem.W.cmp_K (op := .Eq) (tb := tv) hr.units0 hF I.ok.mod.kin J hb nf hs hf (wpAny_mono (run_GA (g := cx.cf f) (n := 2) (Q := fun z H' => z = .bl k0 ∧ Q z H') S (hr.mono (by omega)) hg F hp e0 I (.cons (show RelV (V.ref a) (Value.ref a) from rfl) (.cons ry .nil)) rfl ⟨w, μ, [.obj c ns vs, b], ok, ⟨ra', rb, trivial⟩, ?_⟩) (fun z s' hz => ?_) fun _ _ e => e)
  · show postE Γ W σ w _ (cx.cf f [.obj c ns vs, b] μ)
    rw [e]
    intro w' z H' le ok' rz
    have ez := rz.bl_
    exact ⟨ez, by rw [ez]; exact p w' H' le ok'⟩
  · obtain ⟨z', H', I', rz, rfl, hq⟩ := hz
    have ez : z = .bool k0 := rz
    subst ez
    exact ⟨.bl k0, H', I', rfl, rfl, hq⟩
/-- an item compared: the same object, or by its own == -/
theorem eqBool_refs {M : Model} {A : Around} {E : Value → Shared → Prop} {s : Shared} {l b : Addr} {Q : Bool → Shared → Prop} (hne : l ≠ b) (h : wpAny M A (richCompare .Eq (.ref l) (.ref b)) (fun z s' => ∃ k, z = .bool k ∧ Q k s') E s) : wpAny M A (eqBool (.ref l) (.ref b)) Q E s := by
  unfold eqBool
  refine wpAny_holding (wpAny_ite_split (fun hab => absurd (by have := eq_of_beq hab; injection this) hne) fun _ => ?_)
  refine wpAny_bind (wpAny_mono h (fun z s' hz => ?_) fun _ _ e => e)
  obtain ⟨k, rfl, hq⟩ := hz
  exact wpAny_truthy_bool hq
theorem intsOf_eq : ∀ (xs : List D) (ns : List Int), intsOf xs = some ns → xs = ns.map .int
  | [], ns, h => by cases h; rfl
  | x :: r, ns, h => by
    cases x <;> first | (cases h; done) | skip
    rename_i i
    have h' : (intsOf r).map (i :: ·) = some ns := h
    obtain ⟨ms, e, rfl⟩ := Option.map_eq_some_iff.mp h'
    rw [intsOf_eq r ms e]
    rfl
theorem eqD_obj {c : Nat} {ns : List Nat} {vs : List D} {b : D} {k0 : Bool} {μ' : Mu} (h : eqD cx (.obj c ns vs) b μ = .ok k0 μ') : ∃ f, methOf cx c mEq = some f ∧ tyKn cx (nrm μ b) = true ∧ cx.cf f [.obj c ns vs, b] μ = .ok (.bl k0) μ' := by
  have h' : (match methOf cx c mEq, tyKn cx (nrm μ b) with
    | some f, true => (cx.cf f [.obj c ns vs, b] μ).calm.bind fun r μ => match r with
      | .bl k => R.ok k μ
      | _ => .stuck
    | _, _ => .stuck) = .ok k0 μ' := h
  split at h'
  · rename_i f h1 h2
    refine ⟨f, h1, h2, ?_⟩
    generalize cx.cf f [.obj c ns vs, b] μ = r at h'
    cases r with
    | ok d μ1 =>
      have h2 : (match d with
        | .bl k => R.ok k μ1
        | _ => .stuck) = .ok k0 μ' := h'
      cases d <;> first | (cases h2; done) | skip
      injection h2 with e1 e2
      rw [e1, e2]
    | exc => cases h'
    | stuck => cases h'
  · cases h'
/-- flat parts tell their address's content -/
theorem flat_uniq (hK : Γ.K = X.K) {pins : List (Addr × Obj)} {σ : St} {s : Shared} (I : Inv X pins σ H s) (ok : OkW Γ w μ H) : ∀ {vs : List V} {ds es : List D}, Rps Γ w.Φ vs ds → Rps Γ w.Φ vs es → ds.all flatD = true → es.all flatD = true → ds = es
  | _, _, _, .nil, .nil, _, _ => rfl
  | _, _, _, .cons (v := v) (d := d) a r, .cons (d := e) a2 r2, h, h2 => by
    rw [List.all_cons, Bool.and_eq_true] at h h2
    have one : d = e := by
      have intsU : ∀ {ns ms : List Int} {ws zs : List V} {its : List Value}, Rps Γ w.Φ ws (ns.map .int) → Rps Γ w.Φ zs (ms.map .int) → Vals ws its → Vals zs its → ns = ms := by
        intro ns
        induction ns with
        | nil =>
          intro ms ws zs its h1 h2 r1 r2
          cases h1
          cases r1
          cases r2
          cases ms with
          | nil => rfl
          | cons m ms => cases h2
        | cons n ns ih =>
          intro ms ws zs its h1 h2 r1 r2
          cases h1 with
          | cons q1 q2 =>
            cases r1 with
            | cons g1 g2 =>
              cases r2 with
              | cons g3 g4 =>
                cases ms with
                | nil => cases h2
                | cons m ms =>
                  cases h2 with
                  | cons q3 q4 =>
                    cases q1
                    cases q3
                    obtain ⟨t1, rfl⟩ := (show ∃ t, _ = Value.int n t from g1)
                    obtain ⟨t2, z⟩ := (show ∃ t, _ = Value.int m t from g3)
                    cases z
                    rw [ih q2 q4 g2 g4]
      cases d <;> first | (cases h.1; done) | skip
      · cases e <;> first | (cases h2.1; done) | skip
        · cases a; cases a2; rfl
        · cases a; cases a2
      · cases e <;> first | (cases h2.1; done) | skip
        · cases a2; cases a
        · rename_i xs ys
          obtain ⟨ns, e1⟩ := Option.isSome_iff_exists.mp h.1
          obtain ⟨ms, e2⟩ := Option.isSome_iff_exists.mp h2.1
          have f1 := intsOf_eq _ _ e1
          have f2 := intsOf_eq _ _ e2
          subst f1 f2
          have A1 : Rv Γ w v (.tup (ns.map .int)) := .inr ⟨rfl, a⟩
          have A2 : Rv Γ w v (.tup (ms.map .int)) := .inr ⟨rfl, a2⟩
          obtain ⟨p1, ws, z1, hT, hR, _⟩ := A1.tup_ ok
          obtain ⟨p2, zs, z2, hT2, hR2, _⟩ := A2.tup_ ok
          rw [z1] at z2
          cases z2
          rw [hK] at hT hT2
          obtain ⟨its, r1, g1, _⟩ := I.tuple hT
          obtain ⟨its2, r2, g2, _⟩ := I.tuple hT2
          have ei : its = its2 := by
            obtain ⟨o1, a1, _, n1, b1⟩ := g1
            obtain ⟨o2, a2, _, n2, b2⟩ := g2
            rw [a1] at a2
            cases a2
            rw [b1] at b2
            cases b2
            rfl
          subst ei
          rw [intsU hR hR2 r1 r2]
    rw [one, flat_uniq hK I ok r r2 h.2 h2.2]
theorem in_full {k1 : Nat} (S : Sx Γ C (k1 + 1) X W) (Q0 : ClOk Γ cx.T) (E1 : ∀ c f, methOf cx c mEq = some f → EqK Γ cx.T X.prog X.w X.mg X.base k1 (cx.cf f) c f) : Op2 Γ X W σ0 cx .inO (compareOp .In) := by
  intro pins s σ H x y v u Q I rx ry hh
  obtain ⟨w, μ, ds, ok, rv, p⟩ := hh
  obtain ⟨a, b, rfl, ra, rb⟩ := rv.two
  obtain ⟨xs, rfl⟩ : ∃ xs, b = .tup xs := by cases b <;> first | exact ⟨_, rfl⟩ | exact p.elim
  have p' : postE Γ W σ0 w Q (inO cx a xs μ) := p
  obtain ⟨t, vs, rfl, hT, hR, _⟩ := rb.tup_ ok
  rw [S.hK] at hT
  obtain ⟨its, r1, p1, _⟩ := I.tuple hT
  obtain rfl : u = Value.ref t := ry
  have S1 := S.room.in1
  show wpAny (model X.prog X.w) X.A (do return Value.bool (← contains (.ref t) v)) _ _ s
  refine wpAny_bind ?_
  unfold contains
  refine wpAny_holding (wpAny_bind (wpAny_specialOf p1.typeIs PyProof.Rows.slot_tuple_contains.lookup ?_))
  rw [if_neg (by decide)]
  refine wpAny_bind (wpAny_callSpecialUnlessNone?_slot (name := Str.ofString "__contains__") p1.typeIs PyProof.Rows.slot_tuple_contains
    (wpAny_call_entry PyProof.Rows.slot_tuple_contains p1.typeIs PyProof.Rows.entry_tuple_contains ?_ (PyProof.Rows.args_tuple_contains _ _)))
  show wpAny _ _ (Builtin.Tuple.tupleItemsOf (.ref t) >>= _) _ _ s
  refine wpAny_bind (tupleItemsOf_ p1 ?_)
  have fin : ∀ (b : Bool) (s' : Shared) (w' : Wd) (H' : Hp), Inv X pins σ H' s' → OkW Γ w' μ H' → postE Γ W σ0 w' Q (.ok (.bl b) μ) → ∃ v, PySem.Fin.done (.ret (Value.bool b)) = PySem.Fin.done (.ret v) ∧ wpAny (model X.prog X.w) X.A (truthy v) (fun z s' => wpAny (model X.prog X.w) X.A (pure (Value.bool z)) (EP X pins σ Q) X.xe s') X.xe s' := fun b s' w' H' I' ok' q => ⟨_, rfl, wpAny_truthy_bool (wpAny_pure ⟨.bl b, H', I', rfl, q.vp ok' (.bl _)⟩)⟩
  refine wpAny_bind (forIn_array_ _ (fun rest b s' => b.1 = none ∧ ∃ w' H' vs' xs', w.le w' ∧ OkW Γ w' μ H' ∧ Inv X pins σ H' s' ∧ Vals vs' rest ∧ Rps Γ w'.Φ vs' xs' ∧ postE Γ W σ0 w' Q (inO cx a xs' μ)) _ ?_ ?_ its.toArray _ ⟨rfl, w, H, vs, xs, w.refl, ok, I, by simpa using r1, hR, p'⟩)
  · rintro z rest b s' ⟨hb, w', H', vs', xs', le, ok', I', rs, hR', q⟩
    cases rs with
    | cons g1 g2 =>
      cases hR' with
      | cons h1 h2 =>
        rename_i v0 vs0 d0 ds0
        unfold inO at q
        split at q
        · rename_i c0 ns0 fs0 c1 ns1 fs1
          split at q
          · rename_i k0 μ' he
            split at q
            · rename_i hμ
              rw [hμ] at he
              obtain ⟨f, hm, hk, hcf⟩ := eqD_obj he
              obtain ⟨a0, dx0, ks0, rfl, eΦ0, hv0⟩ : ∃ a0 dx0 ks0, v0 = .ref a0 ∧ w'.Φ a0 = some (.ins (Γ.cls c0) dx0 ks0) ∧ Rps Γ w'.Φ (ks0.map (·.2)) fs0 := by
                cases h1 with
                | obj e1 e2 e3 => exact ⟨_, _, _, rfl, e1, e3⟩
              have ra' := ra.mono le
              obtain ⟨a1, dx1, ks1, rfl, eΦ1, hv1⟩ : ∃ a1 dx1 ks1, x = .ref a1 ∧ w'.Φ a1 = some (.ins (Γ.cls c1) dx1 ks1) ∧ Rps Γ w'.Φ (ks1.map (·.2)) fs1 := by
                rcases ra' with ⟨n, q1, q2, _⟩ | ⟨_, q1⟩
                · cases q2
                · cases q1 with
                  | obj e1 e2 e3 => exact ⟨_, _, _, rfl, e1, e3⟩
              obtain rfl : z = Value.ref a0 := g1
              obtain rfl : v = Value.ref a1 := rx
              by_cases e : a0 = a1
              · subst e
                refine wpAny_bind (SeqAt.EqAt.same _ X.prog X.w _ _ ?_)
                cases k0 with
                | true => exact wpAny_bind (wpAny_pure (wpAny_pure (wpAny_pure (fin true s' w' H' I' ok' q))))
                | false =>
                  exfalso
                  dsimp only at q
                  split at q
                  · rename_i hap
                    unfold apart at hap
                    simp only [Bool.and_eq_true, decide_eq_true_eq] at hap
                    obtain ⟨q1, q2, q3⟩ := hap
                    rw [eΦ0] at eΦ1
                    have e2 := Option.some.inj eΦ1
                    injection e2 with _ _ e3
                    subst e3
                    exact q3 (flat_uniq S.hK I' ok' hv0 hv1 q1 q2)
                  · exact q
              · refine wpAny_bind (eqBool_refs e (wpAny_mono (obj_eqA (Q := fun _ H2 => ∃ w2, w'.le w2 ∧ OkW Γ w2 μ H2) S Q0 (E1 c0 f hm) S1 S.gd I'.env0.in1 I' (show RelV (V.ref a0) (Value.ref a0) from rfl) (show RelV (V.ref a1) (Value.ref a1) from rfl) ok' (.inr ⟨rfl, h1⟩) ra' hk hcf fun w2 H2 le2 ok2 => ⟨w2, le2, ok2⟩) (fun zz s2 hz => ?_) fun _ _ e => e))
                obtain ⟨zv, H2, I2, rz, ez, w2, le2, ok2⟩ := hz
                subst ez
                have ezz : zz = .bool k0 := rz
                refine ⟨k0, ezz, ?_⟩
                cases k0 with
                | true => exact wpAny_bind (wpAny_pure (wpAny_pure (wpAny_pure (fin true s2 w2 H2 I2 ok2 (postE.mono le2 q)))))
                | false =>
                  dsimp only at q
                  split at q
                  · exact wpAny_pure ⟨rfl, w2, H2, vs0, ds0, Wd.trans le le2, ok2, I2, g2, Rps.mono le2.1 _ _ h2, postE.mono le2 q⟩
                  · exact q.elim
            · exact q.elim
          · exact q.elim
        · exact q.elim
  · rintro ⟨b1, b2⟩ s' ⟨hb, w', H', vs', xs', le, ok', I', rs, hR', q⟩
    cases rs
    cases hR'
    simp only at hb
    subst hb
    exact wpAny_pure (fin false s' w' H' I' ok' q)
/-! ### str(o) -/
structure StrK (Γ : Glob) (P : Program) (w : World) (mg : Str → Option Value) (base : Heap) (k : Nat) (cf : List D → Mu → R D) (c f : Nat) : Prop where
  hs : PySem.W.findIn Γ.K (.ref (Γ.cls c)) "__str__" = some (some (.ref (Γ.fad f)))
  hf : PySem.W.isFn Γ.K (.ref (Γ.fad f)) = true
  fok : ∃ ps j, j + 2 ≤ k ∧ FOk Γ P w mg base j cf f ps ∧ pmOk 1 [] ps [0] = true
theorem call_strO (S : Sx Γ C k X W) (E0 : ∀ c f, methOf cx c mStr = some f → StrK Γ X.prog X.w X.mg X.base k (cx.cf f) c f) : OpL false Γ X W σ0 cx 1 .tosO (.type "str") := by
  intro pins s σ H xs us Q I r hh
  obtain ⟨hl, w, μ, ds, ok, rv, p⟩ := hh
  have p' : postE Γ W σ0 w Q (opD cx .tosO ds μ) := p
  have e1 : ds.length = 1 := by rw [← rv.len]; exact hl
  match ds, e1 with
  | [d], _ =>
    match xs, hl, rv with
    | [x], _, ⟨rx, _⟩ =>
      obtain ⟨c, ns, vs, rfl⟩ : ∃ c ns vs, d = .obj c ns vs := by cases d <;> first | exact ⟨_, _, _, rfl⟩ | exact p'.elim
      have p2 : postE Γ W σ0 w Q (match methOf cx c mStr with
        | some f => (cx.cf f [.obj c ns vs] μ).calm.bind fun r μ => match r with
          | .str x => .ok (.str x) μ
          | _ => .stuck
        | none => .stuck) := p'
      cases hm : methOf cx c mStr with
      | none => rw [hm] at p2; exact p2.elim
      | some f =>
        rw [hm] at p2
        dsimp only at p2
        have K0 := E0 c f hm
        obtain ⟨ps, j, hj, F, hp⟩ := K0.fok
        have hK := S.hK
        have hs := K0.hs
        have hf := K0.hf
        rw [hK] at hs hf
        rcases rx with ⟨n, a, z, _⟩ | ⟨_, ra⟩
        · cases z
        obtain ⟨a, dx, fs, rfl, ea⟩ : ∃ a dx fs, x = .ref a ∧ H a = some (.ins (Γ.cls c) dx fs) := by
          cases ra with
          | obj h1 h2 h3 => exact ⟨_, _, _, rfl, ok.frz _ _ h1⟩
        cases r with
        | cons r1 r2 =>
          cases r2
          cases r1
          obtain ⟨mA, J, _⟩ := ins_get I.hok ea
          obtain ⟨od, J, _⟩ := J.look
          have rm := S.room.mono hj
          refine PySem.W.kso_call rm.in1.in1.units0 I.kIn J hs hf (wpAny_mono (run_GA (g := cx.cf f) (n := 1) (Q := fun z H' => ∃ k, z = .str k ∧ Q (.str k) H') S rm.in1.in1 S.gd F hp I.env0.in1.in1 I (.cons (show RelV (V.ref a) (Value.ref a) from rfl) .nil) rfl ⟨w, μ, [.obj c ns vs], ok, ⟨.inr ⟨rfl, ra⟩, trivial⟩, ?_⟩) (fun z s' hz => ?_) fun _ _ e => e)
          · show postE Γ W σ w _ (cx.cf f [.obj c ns vs] μ)
            generalize cx.cf f [.obj c ns vs] μ = r at p2 ⊢
            cases r with
            | stuck => exact p2
            | exc c ns xs μ1 => exact p2.elim
            | ok d μ1 =>
              intro w' z H' le ok' rz
              obtain ⟨k0, rfl⟩ : ∃ k0, d = .str k0 := by cases d <;> first | exact ⟨_, rfl⟩ | exact p2.elim
              have ez : z = .str k0 := by
                have := rz.rp rfl
                cases this; rfl
              exact ⟨k0, ez, p2 w' (.str k0) H' le ok' (.val (.str _))⟩
          · obtain ⟨z', H', I', rz, k, rfl, hq⟩ := hz
            obtain ⟨t, ez⟩ : ∃ t, z = .str k t := rz
            subst ez
            exact ⟨.str k, H', I', ⟨t, rfl⟩, hq⟩
theorem s_strO (S : Sx Γ C k X W) (E0 : ∀ c f, methOf cx c mStr = some f → StrK Γ X.prog X.w X.mg X.base k (cx.cf f) c f) {e : Expr} {x : E} {p pos : Pos} (hg : C.glo "str" = some .free) (hes : notSt e = true) (hxs : x.isSt = false) (ha : PA X [e] (rdA Γ W (evs cx [x]))) :
    PE X (.Call (.Name "str" p) [e] [] pos) (rdE Γ W (ev cx (.op .tosO [x]))) :=
  s_callO (nw := false) S (by decide +kernel) (by decide +kernel) (by simp) (.inr ⟨_, rfl⟩) (fun σ0 => call_strO S E0) hg (by rw [List.all_cons, hes]; rfl) (by rw [List.all_cons, hxs]; rfl) rfl ha
end
end KP
end

section
set_option maxRecDepth 100000
set_option maxHeartbeats 4000000
/-! KPG: tables of the top, their keys texts; is True. -/
namespace KP
open PySem PySem.Spec PyProof.Rows L2
section
variable {Γ : Glob} {X : Cx} {W : WX} {cx : Cxt} {C : Cv} {k : Nat} {σ0 : St}
variable {a b e : Expr} {x y : E} {pos : Pos}
theorem o_isT (k0 : Bool) : OpR X (compareOp .Is) fun x y H Q => y = .bl k0 ∧ RO Γ W σ0 [x] (fun ds μ => opD cx (.isT k0) ds μ) H Q := by
  intro pins s σ H x y v u Q I rx ry ⟨hy, w, μ, ds, ok, rv, p⟩
  obtain ⟨d, rfl, r⟩ := rv.one
  obtain ⟨b0, rfl⟩ : ∃ b0, d = .bl b0 := by cases d <;> first | exact ⟨_, rfl⟩ | exact p.elim
  have ex := r.bl_
  exact op_isBl pins s σ H x y v u Q I rx ry ⟨b0, k0, ex, hy, postE.vp (W := W) p ok (.bl _)⟩
theorem o_notT (k0 : Bool) : OpR X (compareOp .IsNot) fun x y H Q => y = .bl k0 ∧ RO Γ W σ0 [x] (fun ds μ => opD cx (.notT k0) ds μ) H Q := by
  intro pins s σ H x y v u Q I rx ry ⟨hy, w, μ, ds, ok, rv, p⟩
  obtain ⟨d, rfl, r⟩ := rv.one
  obtain ⟨b0, rfl⟩ : ∃ b0, d = .bl b0 := by cases d <;> first | exact ⟨_, rfl⟩ | exact p.elim
  have ex := r.bl_
  exact op_notBl pins s σ H x y v u Q I rx ry ⟨b0, k0, ex, hy, postE.vp (W := W) p ok (.bl _)⟩
theorem s_isT {k0 : Bool} (hx : x.isSt = false) {j : Nat} {p2 : Pos} (ha : PE X a (rdE Γ W (ev cx x))) : PE X (.Compare a [.Is] [.Constant (.bool k0) j p2] pos) (rdE Γ W (ev cx (.op (.isT k0) [x]))) :=
  ⟨fun pins s σ H Q I h => (pe_cmpR (o_isT k0 (σ0 := σ)) ha pe_bl (nomark _)).run pins s σ H Q I (rdE.mono (op1_eval (nw := false) (by simp) hx h) fun v H1 q => ⟨rfl, q⟩)⟩
theorem s_notT {k0 : Bool} (hx : x.isSt = false) {j : Nat} {p2 : Pos} (ha : PE X a (rdE Γ W (ev cx x))) : PE X (.Compare a [.IsNot] [.Constant (.bool k0) j p2] pos) (rdE Γ W (ev cx (.op (.notT k0) [x]))) :=
  ⟨fun pins s σ H Q I h => (pe_cmpR (o_notT k0 (σ0 := σ)) ha pe_bl (nomark _)).run pins s σ H Q I (rdE.mono (op1_eval (nw := false) (by simp) hx h) fun v H1 q => ⟨rfl, q⟩)⟩
theorem st_isT {k0 : Bool} (hx : x.isSt = false) {j : Nat} {p2 : Pos} (ha : PE X a (rdE Γ W (ev cx x))) : PT X (.Compare a [.Is] [.Constant (.bool k0) j p2] pos) (rdT Γ W cx (.op (.isT k0) [x])) := by
  refine ⟨fun pins s σ H Q I h => (pt_cmpR (o_isT k0 (W := W) (σ0 := σ) (cx := cx) (Γ := Γ)) ha pe_bl (nomark _)).run pins s σ H Q I ?_⟩
  have h1 : RDB Γ W [] (fun ds ρ μ => (ev cx x ρ μ).bind fun d μ => (opD cx (.isT k0) (ds ++ [d]) μ).bind fun d μ => trD cx d μ) σ H Q := by
    obtain ⟨w, ρ, μ, ds, g, rv, p⟩ := h
    refine ⟨w, ρ, μ, [], g, trivial, ?_⟩
    simp only [evb_plain (e := .op (.isT k0) [x]) rfl, ev_op (o := .isT k0) (by simp), evs_cons hx, evs_nil, R.bind_assoc, R.ok_bind] at p
    exact p
  refine rdE.mono (RDB.eval (f := fun ds (_ : Rho) μ => (opD cx (.isT k0) ds μ).bind fun d μ => trD cx d μ) h1) fun v H1 h3 => ⟨rfl, ?_⟩
  obtain ⟨w, ρ, μ, ds, g, rv, p⟩ := h3
  obtain ⟨d, rfl, r⟩ := rv.one
  refine ro_test (fun ds μ d μ' e => ?_) g.ok rv p
  rcases ds with _ | ⟨a, _ | ⟨b, t⟩⟩
  · cases e
  · cases a <;> first | (cases e; done) | (cases e; exact ⟨_, rfl⟩)
  · cases a <;> cases e
theorem st_notT {k0 : Bool} (hx : x.isSt = false) {j : Nat} {p2 : Pos} (ha : PE X a (rdE Γ W (ev cx x))) : PT X (.Compare a [.IsNot] [.Constant (.bool k0) j p2] pos) (rdT Γ W cx (.op (.notT k0) [x])) := by
  refine ⟨fun pins s σ H Q I h => (pt_cmpR (o_notT k0 (W := W) (σ0 := σ) (cx := cx) (Γ := Γ)) ha pe_bl (nomark _)).run pins s σ H Q I ?_⟩
  have h1 : RDB Γ W [] (fun ds ρ μ => (ev cx x ρ μ).bind fun d μ => (opD cx (.notT k0) (ds ++ [d]) μ).bind fun d μ => trD cx d μ) σ H Q := by
    obtain ⟨w, ρ, μ, ds, g, rv, p⟩ := h
    refine ⟨w, ρ, μ, [], g, trivial, ?_⟩
    simp only [evb_plain (e := .op (.notT k0) [x]) rfl, ev_op (o := .notT k0) (by simp), evs_cons hx, evs_nil, R.bind_assoc, R.ok_bind] at p
    exact p
  refine rdE.mono (RDB.eval (f := fun ds (_ : Rho) μ => (opD cx (.notT k0) ds μ).bind fun d μ => trD cx d μ) h1) fun v H1 h3 => ⟨rfl, ?_⟩
  obtain ⟨w, ρ, μ, ds, g, rv, p⟩ := h3
  obtain ⟨d, rfl, r⟩ := rv.one
  refine ro_test (fun ds μ d μ' e => ?_) g.ok rv p
  rcases ds with _ | ⟨a, _ | ⟨b, t⟩⟩
  · cases e
  · cases a <;> first | (cases e; done) | (cases e; exact ⟨_, rfl⟩)
  · cases a <;> cases e
/-! tables -/
theorem s_kidx (S : Sx Γ C k X W) {z : Str} {t : List (Str × D)} {p : Pos} (h : C.glo z = some (.kdt t)) (hs : PlainIx b) (hx : x.isSt = false) (hb : PE X b (rdE Γ W (ev cx x))) : PE X (.Subscript (.Name z p) b pos) (rdE Γ W (ev cx (.op (.kidx t) [x]))) := by
  obtain ⟨h1, ⟨a, h2, T⟩, h5, _⟩ := S.glo h
  refine ⟨fun pins s σ H Q I hh => ?_⟩
  refine (pe_ix ix_kdict (pe_glob (v := .ref a) h1 h2 rfl h5) hb hs).run pins s σ H Q I ?_
  refine rdE.mono (op1_eval (nw := false) (by simp) hx hh) fun v H1 q => ?_
  obtain ⟨w, μ, ds, ok, rv, p⟩ := q
  obtain ⟨d, rfl, r⟩ := rv.one
  obtain ⟨z0, rfl⟩ : ∃ z0, d = .str z0 := by cases d <;> first | exact ⟨_, rfl⟩ | exact p.elim
  have p' : postE Γ W σ w Q (match tlk t z0 with
    | some d => .ok d μ
    | none => .stuck) := p
  cases ht : tlk t z0 with
  | none => rw [ht] at p'; exact p'.elim
  | some d0 =>
    rw [ht] at p'
    obtain ⟨es, n, D0⟩ := T.kd
    obtain ⟨u, v0, e1, e2, e3⟩ := T.some_ z0 d0 ht
    have D1 := D0.at_
    rw [S.hK] at e1 D1
    exact ⟨a, z0, v0, rfl, r.str_, ⟨es, n, u, D1, D0.lit, e1, e2⟩, p'.vp ok (e3 _)⟩
def tyKd (a : Addr) (x : V) (_ : Hp) : Prop := x = .ref a
theorem tyOkKd {a : Addr} {es : Array DictEntry} {n : Nat} (D0 : KDict X.K X.w a es n) : TyOk X "dict" (tyKd a) := by
  intro pins σ H s x v I r ty
  obtain rfl : x = .ref a := ty
  cases r
  refine ⟨kd_type D0 I, fun b e => ?_⟩
  cases e
  exact ⟨_, I.kIn _ _ D0.at_, rfl⟩
theorem mt_kget {a : Addr} {es : Array DictEntry} {n : Nat} (D0 : KDict X.K X.w a es n) : MtR X "dict.get" fun x xs H Q => ∃ (z : Str) (d : V), x = .ref a ∧ xs = [.str z, d] ∧ ((∃ u v, PySem.W.nsIn X.K a z = some (some u) ∧ RelV v u ∧ Q v H) ∨ (PySem.W.nsIn X.K a z = some none ∧ Q d H)) := by
  intro pins s σ H x xs v us Q I rx rs h
  obtain ⟨z, d, rfl, rfl, q⟩ := h
  cases rx
  cases rs with
  | cons g1 g2 =>
    cases g2 with
    | cons g3 g4 =>
      cases g4
      obtain ⟨t, rfl⟩ := g1
      refine call_meetsIn PySem.F.slot_dict_get (kd_type D0 I) PySem.F.entry_dict_get (PySem.F.args_dict_get_3 _ _ _) (meets_dict_get_default (strKind X.prog X.w) a (strKind_is X.prog X.w z t) D0.low _) ⟨_, PySem.W.mapOf_K (prog := X.prog) I.kIn D0.at_ D0.lit, ?_⟩
      rcases q with ⟨u, v0, e, rv, q⟩ | ⟨e, q⟩
      · rw [PySem.W.find_K D0.at_ e]
        exact ⟨v0, H, I.tok _, rv, q⟩
      · rw [PySem.W.find_K D0.at_ e]
        exact ⟨d, H, I.tok _, g3, q⟩
theorem s_kget (S : Sx Γ C k X W) {z : Str} {t : List (Str × D)} {p apos cpos : Pos} {f : Expr} (h : C.glo z = some (.kdt t)) (hl : (apos.endLine == cpos.line) = true) (hes : [e, f].all notSt = true) (ha : PA X [e, f] (rdA Γ W (evs cx [x, y]))) : PE X (.Call (.Attribute (.Name z p) "get" apos) [e, f] [] cpos) (rdE Γ W (ev cx (.op (.kget t) [x, y]))) := by
  obtain ⟨h1, ⟨a, h2, T⟩, h5, _⟩ := S.glo h
  obtain ⟨es, n, D0⟩ := T.kd
  have D1 := D0
  rw [S.hK] at D1
  have hes' := hes
  rw [List.all_cons, Bool.and_eq_true] at hes'
  refine ⟨fun pins s σ H Q I hh => ?_⟩
  refine (pe_mG (tyOkKd D1) PySem.F.plainAttrs_dict PySem.F.slot_dict_get PySem.F.type_dict_get (mt_kget D1) (pe_glob (v := .ref a) h1 h2 rfl h5) ha (base_eq rfl) (few_ok hes (by show 2 < 30; decide)) hl (se_plain hes'.1) (bt_plain hes'.2)).run pins s σ H Q I ⟨rfl, ?_⟩
  refine rdA.mono (opn_eval (nw := false) (by simp) hh) fun vs H1 q => ?_
  obtain ⟨w, μ, ds, ok, rv, p⟩ := q
  match ds, rv, p with
  | [], _, p => exact p.elim
  | [d1], _, p => cases d1 <;> exact p.elim
  | d1 :: d2 :: d3 :: r, _, p => cases d1 <;> exact p.elim
  | [d1, d2], rv, p =>
    obtain ⟨v1, v2, rfl, r1, r2⟩ := rvs_two rv
    obtain ⟨z0, rfl⟩ : ∃ z0, d1 = .str z0 := by cases d1 <;> first | exact ⟨_, rfl⟩ | exact p.elim
    have p' : postE Γ W σ w Q (.ok ((tlk t z0).getD d2) μ) := p
    have e0 := r1.str_
    subst e0
    cases ht : tlk t z0 with
    | none =>
      rw [ht] at p'
      have e1 := T.none_ z0 ht
      rw [S.hK] at e1
      exact ⟨z0, v2, rfl, rfl, .inr ⟨e1, p' w v2 H1 w.refl ok r2⟩⟩
    | some d0 =>
      rw [ht] at p'
      obtain ⟨u, v0, e1, e2, e3⟩ := T.some_ z0 d0 ht
      rw [S.hK] at e1
      exact ⟨z0, v2, rfl, rfl, .inl ⟨u, v0, e1, e2, p'.vp ok (e3 _)⟩⟩
end
end KP
end

section
set_option maxRecDepth 100000
set_option maxHeartbeats 4000000
/-! KPZ: zip, enumerate; list(range(n)); a static method. -/
namespace KP
open PySem PySem.Spec PyProof.Rows L2
section
variable {Γ : Glob} {X : Cx} {W : WX} {cx : Cxt} {C : Cv} {k : Nat}
/-- one thing stands still -/
def stOne (μ0 μ : Mu) (d : D) : Bool := match d with
  | .cell n => decide (μ0[n]? = μ[n]?)
  | _ => true
theorem still_all (ds : List D) (μ0 μ : Mu) : still ds μ0 μ = ds.all (stOne μ0 μ) := rfl
/-- a list that stands still -/
theorem still_lst {μ μ1 : Mu} {d : D} {xs : List D} (hl : lstOf μ d = some xs) (hst : stOne μ μ1 d = true) : lstOf μ1 d = some xs := by
  cases d with
  | lst z => exact hl
  | cell n =>
    have hs' := of_decide_eq_true (show decide (μ[n]? = μ1[n]?) = true from hst)
    have hl' : (match μ[n]? with
      | some (.lst xs) => some xs
      | _ => none) = some xs := hl
    show (match μ1[n]? with
      | some (.lst xs) => some xs
      | _ => none) = some xs
    rw [← hs']; exact hl'
  | _ => cases hl
theorem still_one {μ μ1 : Mu} {d : D} (h : still [d] μ μ1 = true) : stOne μ μ1 d = true := by
  rw [still_all] at h
  simp only [List.all_cons, List.all_nil, Bool.and_true] at h
  exact h
theorem still_two {μ μ1 : Mu} {d e : D} (h : still [d, e] μ μ1 = true) : stOne μ μ1 d = true ∧ stOne μ μ1 e = true := by
  rw [still_all] at h
  simp only [List.all_cons, List.all_nil, Bool.and_true, Bool.and_eq_true] at h
  exact h
theorem zipD_get : ∀ (xs ys : List D) (i : Nat), (zipD xs ys)[i]? = (match xs[i]?, ys[i]? with
  | some x, some y => some (.tup [x, y])
  | _, _ => none)
  | [], ys, i => by simp [zipD]
  | x :: xs, [], i => by
    cases i <;> simp [zipD] <;> split <;> simp_all
  | x :: xs, y :: ys, 0 => by simp [zipD]
  | x :: xs, y :: ys, i + 1 => by simpa [zipD] using zipD_get xs ys i
theorem zipD_len : ∀ (xs ys : List D), (zipD xs ys).length = min xs.length ys.length
  | [], ys => by simp [zipD]
  | x :: xs, [] => by simp [zipD]
  | x :: xs, y :: ys => by
    simp only [zipD, List.length_cons, zipD_len xs ys]
    omega
theorem enumD_get : ∀ (xs : List D) (j i : Nat), (enumD j xs)[i]? = xs[i]?.map fun x => .tup [.int ((j + i : Nat) : Int), x]
  | [], j, i => by simp [enumD]
  | x :: xs, j, 0 => by simp [enumD]
  | x :: xs, j, i + 1 => by
    have := enumD_get xs (j + 1) i
    simp only [enumD, List.getElem?_cons_succ, this]
    congr 1
    funext y
    rw [show j + 1 + i = j + (i + 1) by omega]
theorem enumD_len : ∀ (xs : List D) (j : Nat), (enumD j xs).length = xs.length
  | [], j => rfl
  | x :: xs, j => by simp [enumD, enumD_len xs (j + 1)]
/-- a new pair -/
theorem ok_pair {w : Wd} {μ : Mu} {H : Hp} (ok : OkW Γ w μ H) {T : Addr} {o : Obj} (ht : TO o) (hT : H T = none) {x y : V} {a b : D} (r1 : Rp Γ w.Φ x a) (r2 : Rp Γ w.Φ y b) : ∃ w', w.le w' ∧ OkW Γ w' μ (upd H T (.frz o (.tup [x, y]))) ∧ Rv Γ w' (.ref T) (.tup [a, b]) := by
  have o1 := ok.add (o := .frz o (.tup [x, y])) hT (by intro _ z; cases z)
  have le := w.add_le (o := .frz o (.tup [x, y])) (ok.fresh hT)
  refine ⟨w.add T (.frz o (.tup [x, y])), le, o1, .val (.tup (.inl (.inr ⟨o, upd_same⟩)) (.cons (r1.mono le.1) (.cons (r2.mono le.1) .nil)) ?_ (.inl ⟨o, _, upd_same, ht⟩))⟩
  show 2 ≤ LN
  unfold LN; omega
variable {tg e e2 : Expr} {x y : E} {p pos tpos : Pos} {elts : List Expr} {kk : Nat}
/-- zip's turns, of whatever two sequences -/
theorem walks_zipG {S1 S2 : PySem.W.Frag → Hp → Addr → List V → Prop} {w : Wd} {a b : Addr} {xs ys : List D} {st : Mu → Bool}
    (h : ∀ (w1 : Wd) (μ1 : Mu) (H1 : Hp), w.lf w1 → OkW Γ w1 μ1 H1 → st μ1 = true → ∃ vs us, S1 X.K H1 a vs ∧ Rps Γ w1.Φ vs xs ∧ S2 X.K H1 b us ∧ Rps Γ w1.Φ us ys) : Walks Γ w (ItzP S1 S2 X.K a b) st (zipD xs ys) := by
  intro i w1 μ1 H1 le ok1 hst
  obtain ⟨vs, us, s1, r1, s2, r2⟩ := h w1 μ1 H1 le ok1 hst
  have l1 := r1.len
  have l2 := r2.len
  refine ⟨fun hi => ⟨vs, us, s1, s2, by rw [hi, zipD_len]; omega⟩, fun d hd => ?_⟩
  have hlt := lt_of_some hd
  rw [zipD_len] at hlt
  rw [zipD_get] at hd
  split at hd
  · rename_i x0 y0 hx hy0
    cases hd
    obtain ⟨x', hx', rx⟩ := r1.get hx
    obtain ⟨y', hy', ry⟩ := r2.get hy0
    refine ⟨⟨vs, us, x', y', s1, s2, hx', hy'⟩, fun z H' hy => ?_⟩
    obtain ⟨T, x, y, o, rfl, ht, hTn, rfl, g1, g2⟩ := hy
    have g1' := g1 vs s1
    have g2' := g2 us s2
    rw [hx'] at g1'
    rw [hy'] at g2'
    cases g1'
    cases g2'
    exact ok_pair ok1 ht hTn rx ry
  · cases hd
theorem walks_zip (hK : Γ.K = X.K) {w : Wd} {μ : Mu} {H : Hp} {v u : V} {d f : D} {xs ys : List D} (ok : OkW Γ w μ H) (r1 : Rv Γ w v d) (r2 : Rv Γ w u f) (h1 : lstOf μ d = some xs) (h2 : lstOf μ f = some ys) :
    ∃ a b vs us, v = .ref a ∧ u = .ref b ∧ SqL X.K H a vs ∧ SqL X.K H b us ∧ Walks Γ w (ItzP SqL SqL X.K a b) (still [d, f] μ) (zipD xs ys) := by
  obtain ⟨a, vs, e1, hT, hR⟩ := r1.lst_ ok h1
  obtain ⟨b, us, e2, hT2, hR2⟩ := r2.lst_ ok h2
  refine ⟨a, b, vs, us, e1, e2, SqL.of hT, SqL.of hT2, walks_zipG fun w1 μ1 H1 le ok1 hst => ?_⟩
  obtain ⟨s1, s2⟩ := still_two hst
  obtain ⟨a', vs', q1, hT', hR'⟩ := (r1.monf le).lst_ ok1 (still_lst h1 s1)
  obtain ⟨b', us', q2, hT2', hR2'⟩ := (r2.monf le).lst_ ok1 (still_lst h2 s2)
  rw [e1] at q1
  rw [e2] at q2
  cases q1
  cases q2
  exact ⟨vs', us', SqL.of hT', hR', SqL.of hT2', hR2'⟩
theorem walks_zipT (hK : Γ.K = X.K) {w : Wd} {μ : Mu} {H : Hp} {v u : V} {xs ys : List D} (ok : OkW Γ w μ H) (r1 : Rv Γ w v (.tup xs)) (r2 : Rv Γ w u (.tup ys)) :
    ∃ a b vs us, v = .ref a ∧ u = .ref b ∧ SqT X.K H a vs ∧ SqT X.K H b us ∧ Walks Γ w (ItzP SqT SqT X.K a b) (still [.tup xs, .tup ys] μ) (zipD xs ys) := by
  obtain ⟨a, vs, e1, hT, hR, _⟩ := r1.tup_ ok
  obtain ⟨b, us, e2, hT2, hR2, _⟩ := r2.tup_ ok
  rw [hK] at hT hT2
  refine ⟨a, b, vs, us, e1, e2, hT, hT2, walks_zipG fun w1 μ1 H1 le ok1 _ => ?_⟩
  obtain ⟨a', vs', q1, hT', hR', _⟩ := (r1.monf le).tup_ ok1
  obtain ⟨b', us', q2, hT2', hR2', _⟩ := (r2.monf le).tup_ ok1
  rw [hK] at hT' hT2'
  rw [e1] at q1
  rw [e2] at q2
  cases q1
  cases q2
  exact ⟨vs', us', hT', hR', hT2', hR2'⟩
theorem walks_zipM (hK : Γ.K = X.K) {w : Wd} {μ : Mu} {H : Hp} {v u : V} {d : D} {xs ys : List D} (ok : OkW Γ w μ H) (r1 : Rv Γ w v d) (r2 : Rv Γ w u (.tup ys)) (h1 : lstOf μ d = some xs) :
    ∃ a b vs us, v = .ref a ∧ u = .ref b ∧ SqL X.K H a vs ∧ SqT X.K H b us ∧ Walks Γ w (ItzP SqL SqT X.K a b) (still [d, .tup ys] μ) (zipD xs ys) := by
  obtain ⟨a, vs, e1, hT, hR⟩ := r1.lst_ ok h1
  obtain ⟨b, us, e2, hT2, hR2, _⟩ := r2.tup_ ok
  rw [hK] at hT2
  refine ⟨a, b, vs, us, e1, e2, SqL.of hT, hT2, walks_zipG fun w1 μ1 H1 le ok1 hst => ?_⟩
  obtain ⟨s1, _⟩ := still_two hst
  obtain ⟨a', vs', q1, hT', hR'⟩ := (r1.monf le).lst_ ok1 (still_lst h1 s1)
  obtain ⟨b', us', q2, hT2', hR2', _⟩ := (r2.monf le).tup_ ok1
  rw [hK] at hT2'
  rw [e1] at q1
  rw [e2] at q2
  cases q1
  cases q2
  exact ⟨vs', us', SqL.of hT', hR', hT2', hR2'⟩
theorem zip_cases {μ : Mu} {d f : D} {xs : List D} (h : itD .zip [d, f] μ = some xs) : (∃ zs ws, lstOf μ d = some zs ∧ lstOf μ f = some ws ∧ xs = zipD zs ws) ∨ (∃ zs ws, d = .tup zs ∧ f = .tup ws ∧ xs = zipD zs ws) ∨ (∃ zs ws, lstOf μ d = some zs ∧ f = .tup ws ∧ xs = zipD zs ws) := by
  unfold itD at h
  dsimp only at h
  split at h
  · rename_i zs ws h1 h2
    exact .inl ⟨zs, ws, h1, h2, (Option.some.inj h).symm⟩
  · rename_i zs h1 h2
    split at h
    · exact .inr (.inr ⟨_, _, h1, rfl, (Option.some.inj h).symm⟩)
    · cases h
  · split at h
    · exact .inr (.inl ⟨_, _, rfl, rfl, (Option.some.inj h).symm⟩)
    · cases h
theorem si_zip (hK : Γ.K = X.K) (hg : Gl X "zip") (hm : X.mg "zip" = none) (hn : notSt e = true) (hn2 : notSt e2 = true) (ha : PA X [e, e2] (rdA Γ W (evs cx [x, y]))) : PI X (.Tuple elts kk tpos) (.Call (.Name "zip" p) [e, e2] [] pos) (tWalk Γ W cx .zip [x, y]) := by
  refine pi_imp (pi_zipP hg hm ha (by rw [se_plain hn, se_plain hn2]) (bt_plain (by rw [List.all_cons, hn2]; rfl))) fun σ H R0 h => rdA.mono h fun vs H1 ⟨w, μ, ds, xs, ok, rv, e, q⟩ => ?_
  match ds, e with
  | [d, f], e =>
    obtain ⟨v, u, rfl, r1, r2⟩ := rvs_two rv
    rcases zip_cases e with ⟨zs, ws, h1, h2, rfl⟩ | ⟨zs, ws, rfl, rfl, rfl⟩ | ⟨zs, ws, h1, rfl, rfl⟩
    · obtain ⟨a, b, vs, us, rfl, rfl, g1, g2, wk⟩ := walks_zip hK ok r1 r2 h1 h2
      exact ⟨a, b, vs, us, rfl, .inl ⟨g1, g2, q _ wk⟩⟩
    · obtain ⟨a, b, vs, us, rfl, rfl, g1, g2, wk⟩ := walks_zipT hK ok r1 r2
      exact ⟨a, b, vs, us, rfl, .inr (.inl ⟨g1, g2, q _ wk⟩)⟩
    · obtain ⟨a, b, vs, us, rfl, rfl, g1, g2, wk⟩ := walks_zipM hK ok r1 r2 h1
      exact ⟨a, b, vs, us, rfl, .inr (.inr ⟨g1, g2, q _ wk⟩)⟩
theorem si_enum (hK : Γ.K = X.K) (hg : Gl X "enumerate") (hm : X.mg "enumerate" = none) (hn : notSt e = true) (ha : PA X [e] (rdA Γ W (evs cx [x]))) : PI X (.Tuple elts kk tpos) (.Call (.Name "enumerate" p) [e] [] pos) (tWalk Γ W cx .enum [x]) := by
  refine pi_imp (pi_enumP hg hm ha (se_plain hn)) fun σ H R0 h => rdA.mono h fun vs H1 ⟨w, μ, ds, xs, ok, rv, e, q⟩ => ?_
  match ds, e with
  | [d], e =>
    obtain ⟨v, rfl, r⟩ := rvs_one rv
    have e' : (match lstOf μ d with
      | some xs => some (enumD 0 xs)
      | none => none) = some xs := e
    split at e'
    · rename_i zs h1
      cases e'
      obtain ⟨a, vs, e1, hT, hR⟩ := r.lst_ ok h1
      refine ⟨a, vs, by rw [e1], SqL.of hT, q _ fun i w1 μ1 H1 le ok1 hst => ?_⟩
      obtain ⟨a', vs', q1, hT', hR'⟩ := (r.monf le).lst_ ok1 (still_lst h1 (still_one hst))
      rw [e1] at q1
      cases q1
      have l1 := hR'.len
      have sL : SqL X.K H1 a vs' := SqL.of hT'
      refine ⟨fun hi => ⟨vs', sL, by rw [hi, enumD_len]; omega⟩, fun d hd => ?_⟩
      rw [enumD_get] at hd
      obtain ⟨x0, hx, rfl⟩ := Option.map_eq_some_iff.mp hd
      obtain ⟨x', hx', rx⟩ := hR'.get hx
      refine ⟨⟨vs', x', sL, hx'⟩, fun z H' hy => ?_⟩
      obtain ⟨T, y, o, rfl, ht, hTn, rfl, g1⟩ := hy
      have g2 := g1 vs' sL
      rw [hx'] at g2
      cases g2
      rw [Nat.zero_add]
      exact ok_pair ok1 ht hTn (.int _) rx
    · cases e'
/-! ### list(range(n)), tuple(range(n)) -/
theorem Rps.rgV {Φ : Hp} (a b : Int) : Rps Γ Φ (rgV a b) (rngD a b) := by
  unfold L2.rgV rngD
  generalize List.range (b - a).toNat = r
  induction r with
  | nil => exact .nil
  | cons x r ih => exact .cons (.int _) ih
theorem s_lrng {nw : Bool} (S : Sx Γ C k X W) {p2 : Pos} (hg : C.glo "list" = some .free) (hg2 : C.glo "range" = some .free) (hn : notSt e = true) (hx : x.isSt = false) (ha : PE X e (rdE Γ W (ev cx x))) : PE X (.Call (.Name "list" p) [.Call (.Name "range" p2) [e] [] pos] [] tpos) (rdE Γ W fun ρ μ => nwR nw (ev cx (.op .lrng [x]) ρ μ)) := by
  obtain ⟨g1, g2, _, _⟩ := S.glo hg
  obtain ⟨g3, g4, _, _⟩ := S.glo hg2
  refine ⟨fun pins s σ H Q I h => (pe_listRg S.calm g1 g2 (prg_1 g3 g4 ha (se_plain hn))).run pins s σ H Q I ?_⟩
  have h1 : RD Γ W [] (fun ds ρ μ => (ev cx x ρ μ).bind fun d μ => (fun ds (_ : Rho) μ => nwR nw (opD cx .lrng ds μ)) (ds ++ [d]) ρ μ) σ H Q := by
    obtain ⟨w, ρ, μ, ds, g, rv, p⟩ := h
    refine ⟨w, ρ, μ, [], g, trivial, ?_⟩
    have e : nwR nw (ev cx (.op .lrng [x]) ρ μ) = (ev cx x ρ μ).bind fun d μ => nwR nw (opD cx .lrng [d] μ) := by
      rw [ev_op (by simp), evs_cons hx, nwR_bind, R.bind_assoc]
      congr 1
    have p' : postE Γ W σ w Q (nwR nw (ev cx (.op .lrng [x]) ρ μ)) := p
    rw [e] at p'
    exact p'
  refine rdE.mono (RD.eval (f := fun ds (_ : Rho) μ => nwR nw (opD cx .lrng ds μ)) h1) fun v H1 h2 => ?_
  obtain ⟨w, ρ, μ, ds, g, rv, p⟩ := h2
  obtain ⟨d, rfl, r⟩ := rv.one
  dsimp only at p
  cases d <;> first | (cases nw <;> exact p.elim) | skip
  rename_i i
  have p' : postE Γ W σ w Q (nwR nw (if i ≤ LN ∧ -LN ≤ i then .ok (.lst (rngD 0 i)) μ else .stuck)) := p
  split at p'
  · rename_i hb
    have hLN : ((LN : Nat) : Int) = 16777216 := rfl
    refine ⟨i, r.int_, ⟨by omega, by omega, by omega, by omega, by omega⟩, fun q hq => ?_⟩
    have hpr : ∀ z ∈ w.pr, z.1 ≠ q := fun z hz => ne_of_none (g.ok.pro z hz).1 hq
    exact made_end (g.ok.hideNew hq) hpr (Rps.rgV 0 i) (by rw [show (rngD 0 i).length = (i - 0).toNat by simp [rngD]]; unfold LN; omega) p'
  · cases nw <;> exact p'.elim
theorem s_trng (S : Sx Γ C k X W) {p2 : Pos} (hg : C.glo "tuple" = some .free) (hg2 : C.glo "range" = some .free) (hn : notSt e = true) (hx : x.isSt = false) (ha : PE X e (rdE Γ W (ev cx x))) : PE X (.Call (.Name "tuple" p) [.Call (.Name "range" p2) [e] [] pos] [] tpos) (rdE Γ W (ev cx (.op .trng [x]))) := by
  obtain ⟨g1, g2, _, _⟩ := S.glo hg
  obtain ⟨g3, g4, _, _⟩ := S.glo hg2
  refine ⟨fun pins s σ H Q I h => (pe_tupRgP S.calm g1 g2 (prg_1 g3 g4 ha (se_plain hn)) rfl).run pins s σ H Q I ?_⟩
  have h1 : RD Γ W [] (fun ds ρ μ => (ev cx x ρ μ).bind fun d μ => (fun ds (_ : Rho) μ => opD cx .trng ds μ) (ds ++ [d]) ρ μ) σ H Q := by
    obtain ⟨w, ρ, μ, ds, g, rv, p⟩ := h
    refine ⟨w, ρ, μ, [], g, trivial, ?_⟩
    have e : ev cx (.op .trng [x]) ρ μ = (ev cx x ρ μ).bind fun d μ => opD cx .trng [d] μ := by
      rw [ev_op (by simp), evs_cons hx, R.bind_assoc]
      congr 1
    have p' : postE Γ W σ w Q (ev cx (.op .trng [x]) ρ μ) := p
    rw [e] at p'
    exact p'
  refine rdE.mono (RD.eval (f := fun ds (_ : Rho) μ => opD cx .trng ds μ) h1) fun v H1 h2 => ?_
  obtain ⟨w, ρ, μ, ds, g, rv, p⟩ := h2
  obtain ⟨d, rfl, r⟩ := rv.one
  dsimp only at p
  cases d <;> first | (exact p.elim) | skip
  rename_i i
  have p' : postE Γ W σ w Q (if i ≤ LN ∧ -LN ≤ i then .ok (.tup (rngD 0 i)) μ else .stuck) := p
  split at p'
  · rename_i hb
    have hLN : ((LN : Nat) : Int) = 16777216 := rfl
    refine ⟨i, r.int_, ⟨by omega, by omega, by omega, by omega, by omega⟩, fun q o ht hq => ?_⟩
    have le := w.add_le (o := .frz o (.tup (rgV 0 i))) (g.ok.fresh hq)
    exact p' _ (.ref q) _ le (g.ok.add hq (by intro _ z; cases z)) (.val (.tup (.inl (.inr ⟨o, upd_same⟩)) (Rps.rgV 0 i) (by rw [show (rngD 0 i).length = (i - 0).toNat by simp [rngD]]; unfold LN; omega) (.inl ⟨o, _, upd_same, ht⟩)))
  · exact p'.elim
/-! ### a static method, called on its class -/
structure SmK (Γ : Glob) (c : Nat) (m : Str) (f : Nat) : Prop where
  rd : ClX.CRead Γ.K (Γ.cls c) (.type "type")
  ex : ∃ p rest, PySem.W.findCls Γ.K (.ref (Γ.cls c)) (.type "type") m = some (.get (.builtin "staticmethod.__get__") (.ref p) .none (.ref (Γ.cls c))) ∧ PySem.W.recIn Γ.K p "staticmethod" = some (.ref (Γ.fad f) :: rest)
theorem getsm_ok {c f : Nat} {m : Str} {pl : Sem Bool} {pins : List (Addr × Obj)} {σ : St} {H : Hp} {s : Shared} {E : Value → Shared → Prop} {A : Around} {Q : Value × List Value → Shared → Prop} (hK : Γ.K = X.K) (I : Inv X pins σ H s) (M : SmK Γ c m f) (h : ∀ s', Inv X pins σ H s' → Q (.ref (Γ.fad f), []) s') : wpAny (model X.prog X.w) A (getMethod (.ref (Γ.cls c)) m pl) Q E s := by
  obtain ⟨rd, p, rest, h1, h2⟩ := M
  rw [hK] at rd h1 h2
  refine PySem.W.method_cls I.kIn rd.ga ?_
  refine PySem.W.cls_bind I.kIn rd.rd h1 ?_
  exact wpAny_call (PySem.W.sm_get (s := { s with toks := s.toks + 1 }) I.kIn h2 (PySem.W.handed_on rfl (h _ (I.tok _))))
theorem s_sm {c f : Nat} {m : Str} {ps ks : List Str} {pm : List Nat} {es : List Expr} {kws : List Keyword} {xs ys : List E} {z : Str} {np apos pos : Pos} {j : Nat} (S : Sx Γ C k X W) (M : SmK Γ c m f) (hj : j ≤ k) (F : FOk Γ X.prog X.w X.mg X.base j (cx.cf f) f ps) (hp : pmOk xs.length ks ps pm = true)
    (hz : C.glo z = some (.cls c)) (hl : es.length + kws.length < 28) (hline : (apos.endLine == pos.line) = true) (hes : es.all notSt = true) (hks : kws.map (·.arg) = ks.map some) (hys : ys.length = ks.length) (hxs : (xs.all fun x => !x.isSt) = true) (hyt : (ys.all fun x => !x.isSt) = true) (hnil : es = [] → xs = [])
    (ha : PA X es (rdA Γ W (evs cx xs))) (hkw : PK X kws (rdA Γ W (evs cx ys))) : PE X (.Call (.Attribute (.Name z np) m apos) es kws pos) (rdE Γ W (ev cx (.call f (xs ++ ys) pm))) := by
  obtain ⟨g1, g2, g3, _⟩ := S.glo hz
  have hk : PySem.W.keepIn X.K (.ref (Γ.fad f)) = true := by
    obtain ⟨_, _, hkp, _⟩ := F
    rw [← S.hK]; exact hkp
  refine ⟨fun pins s σ H Q I h => ?_⟩
  have hr : rdA Γ W (evs cx (xs ++ ys)) σ H fun vs H1 => vs.length = xs.length + ys.length ∧ RO Γ W σ vs (fun ds μ => callP cx f pm ds μ) H1 Q := by
    obtain ⟨w, ρ, μ, ds, g, rv, p⟩ := h
    refine ⟨w, ρ, μ, [], g, trivial, ?_⟩
    simp only [ev_call] at p
    dsimp only
    cases e : evs cx (xs ++ ys) ρ μ with
    | ok a μ1 =>
      rw [e, R.ok_bind] at p
      exact fun w1 vs H1 le ok ra => ⟨by rw [ra.len, evs_len (by rw [List.all_append, hxs, hyt]; rfl) e, List.length_append], w1, μ1, a, ok, ra, postE.mono le p⟩
    | exc c ns vs μ1 => rw [e] at p; exact p
    | stuck => rw [e] at p; exact p
  have nm : PE X (.Name z np) (tC (.ref (Γ.cls c))) := pe_glob g1 g2 rfl g3
  refine PySem.W.methodCall_KW (thn (nm.run pins s σ H (fun v H' => v = .ref (Γ.cls c) ∧ H' = H) I ⟨rfl, rfl⟩) fun ov s1 ⟨v, H1, I1, rv, ev1, eh⟩ => ?_) (meth_eq rfl (form_ok hes hks hl) hline)
  subst ev1
  subst eh
  cases rv
  refine getsm_ok S.hK I1 M fun s2 I2 => ?_
  refine args_all hk hes hks hxs hnil ha hkw I2 hr fun us ws vs zs s' H' I' r rz l1 ⟨l2, ro⟩ => ?_
  exact run_G (g := cx.cf f) S hj F hp I' r rz l1 (by rw [List.length_append] at l2; omega) ro
/-! a list that changes no more -/
theorem OkW.freeze {w : Wd} {μ : Mu} {H : Hp} (ok : OkW Γ w μ H) {n : Nat} {a : Addr} {vs : List V} {xs : List D} (h1 : w.θ[n]? = some a) (h2 : μ[n]? = some (.lst xs)) (h3 : H a = some (.lst vs)) :
    OkW Γ ⟨upd w.Φ a (.lst vs), w.θ, w.pr⟩ (μ.set n .dead) H ∧ w.le ⟨upd w.Φ a (.lst vs), w.θ, w.pr⟩ := by
  obtain ⟨_, hn⟩ := ok.cel n a _ h1 h2
  have hΦ := hn (by intro z; cases z)
  have le : w.le ⟨upd w.Φ a (.lst vs), w.θ, w.pr⟩ := ⟨fun b o e => by
    show upd w.Φ a (.lst vs) b = some o
    rw [upd_ne (ne_of_none e hΦ)]; exact e, fun _ _ e => e, rfl⟩
  refine ⟨⟨fun b o e => ?_, by show w.θ.length = _; rw [List.length_set]; exact ok.len, ok.nd, fun k b m e1 e2 => ?_, fun q hq => ?_, fun b ps e => ?_, ok.psf, ok.tab⟩, le⟩
  · have e' : upd w.Φ a (.lst vs) b = some o := e
    by_cases hb : b = a
    · subst hb
      rw [upd_same] at e'
      cases e'
      exact h3
    · rw [upd_ne hb] at e'
      exact ok.frz b o e'
  · have e1' : w.θ[k]? = some b := e1
    by_cases hk : k = n
    · subst hk
      rw [h1] at e1'
      cases e1'
      have : m = .dead := by
        rw [List.getElem?_set_self (List.getElem?_eq_some_iff.mp h2).1] at e2
        exact (Option.some.inj e2).symm
      subst this
      exact ⟨⟨_, upd_same⟩, fun z => absurd rfl z⟩
    · rw [List.getElem?_set_ne (fun z => hk z.symm)] at e2
      obtain ⟨q1, q2⟩ := ok.cel k b m e1' e2
      have hb : b ≠ a := by
        rintro rfl
        have hk1 := (List.getElem?_eq_some_iff.mp e1').1
        have hn1 := (List.getElem?_eq_some_iff.mp h1).1
        exact hk ((List.getElem_inj (h₀ := hk1) (h₁ := hn1) ok.nd).mp (by rw [(List.getElem?_eq_some_iff.mp e1').2, (List.getElem?_eq_some_iff.mp h1).2]))
      refine ⟨q1.mono le fun _ q => q, fun hm => ?_⟩
      show upd w.Φ a (.lst vs) b = none
      rw [upd_ne hb]
      exact q2 hm
  · obtain ⟨q1, q2, q3⟩ := ok.pro q hq
    refine ⟨q1, ?_, q3⟩
    show upd w.Φ a (.lst vs) q.1 = none
    have hq1 : q.1 ≠ a := fun z => q3 (by rw [z]; exact List.mem_of_getElem? h1)
    rw [upd_ne hq1]
    exact q2
  · have e' : upd w.Φ a (.lst vs) b = some (.tbl ps) := e
    by_cases hb : b = a
    · subst hb
      rw [upd_same] at e'
      cases e'
    · rw [upd_ne hb] at e'
      exact ok.ntb b ps e'
theorem s_frz {e : Expr} {x : E} (ha : PE X e (rdE Γ W (ev cx x))) : PE X e (rdE Γ W (ev cx (.frz x))) := by
  refine ⟨fun pins s σ H Q I h => ha.run pins s σ H Q I ?_⟩
  obtain ⟨w, ρ, μ, ds, g, rv, p⟩ := h
  refine ⟨w, ρ, μ, [], g, trivial, ?_⟩
  have p' : postE Γ W σ w Q ((ev cx x ρ μ).bind frzD) := p
  dsimp only
  generalize ev cx x ρ μ = r at p' ⊢
  cases r with
  | exc c ns vs μ1 => exact p'
  | stuck => exact p'
  | ok d μ1 =>
    intro w1 v H1 le ok r
    have p2 : postE Γ W σ w Q (frzD d μ1) := p'
    unfold frzD at p2
    split at p2
    · rename_i n
      split at p2
      · rename_i xs hm
        split at p2
        · rename_i hl
          rcases r with ⟨n', a, e1, e2, rfl⟩ | ⟨z, _⟩
          · cases e1
            obtain ⟨⟨vs, g1, g2⟩, _⟩ := ok.cel n a _ e2 hm
            obtain ⟨ok2, le2⟩ := ok.freeze e2 hm g1
            exact p2 _ _ H1 (Wd.trans le le2) ok2 (.val (.lst upd_same (g2.mono le2.1) hl))
          · cases z
        · exact p2.elim
      · exact p2.elim
    · exact p2.elim
end
end KP
end

section
set_option maxRecDepth 100000
set_option maxHeartbeats 4000000
/-! KP17: what may stand for what, of operators. -/
namespace KP
open PySem PySem.Spec PyProof.Rows L2
structure Ba where
  P : Program
  w : World
  mg : Str → Option Value
  base : Heap
def baOf (X : Cx) : Ba := ⟨X.prog, X.w, X.mg, X.base⟩
structure Gd where
  T : Tab
  pn : Nat → Option (List Str)
  /-- methods: their names, their defs -/
  ms : List (Nat × Nat)
  /-- static methods: class, name, def -/
  sm : List (Nat × Str × Nat)
/-- what holds of the whole program -/
structure Ev (Γ : Glob) (B : Ba) (k : Nat) (cx : Cxt) (D0 : Gd) : Prop where
  two : 2 ≤ k
  cl : ClOk Γ cx.T
  fn : ∀ f ps, D0.pn f = some ps → ∃ j, j ≤ k ∧ FOk Γ B.P B.w B.mg B.base j (cx.cf f) f ps
  ct : ∀ g t, D0.T.ct g = some t → CatOk Γ B.P B.w B.mg B.base k (cx.lf g) (Γ.cad g)
  mkc : ∀ c i f ps, D0.T.cl c = some i → i.kind < 2 → i.init = some f → D0.pn f = some ps → MkOk Γ B.P B.w B.mg B.base k (cx.mkc c) c f ps
  mth : ∀ c i m f, cx.T.cl c = some i → i.meths.lookup m = some f → MtK Γ c m f ∧ (m, f) ∈ D0.ms
  strk : ∀ c f, methOf cx c mStr = some f → StrK Γ B.P B.w B.mg B.base k (cx.cf f) c f
  sm : ∀ q ∈ D0.sm, SmK Γ q.1 q.2.1 q.2.2
  tru : ∀ {C : Cv} {X : Cx} {W : WX}, Sx Γ C k X W → baOf X = B → TruOk Γ X W cx
  eq : ∀ {C : Cv} {X : Cx} {W : WX}, Sx Γ C k X W → baOf X = B → ∀ σ0, Op2 Γ X W σ0 cx .eq (compareOp .Eq)
  ne : ∀ {C : Cv} {X : Cx} {W : WX}, Sx Γ C k X W → baOf X = B → ∀ σ0, Op2 Γ X W σ0 cx .ne (compareOp .NotEq)
  ino : ∀ {C : Cv} {X : Cx} {W : WX}, Sx Γ C k X W → baOf X = B → ∀ σ0, Op2 Γ X W σ0 cx .inO (compareOp .In)
section
variable {Γ : Glob} {X : Cx} {W : WX} {cx : Cxt} {C : Cv} {k : Nat} {B : Ba} {D0 : Gd} {σ0 : St}
theorem innD_pure (a b : D) (μ : Mu) : innD a b μ = .stuck ∨ ∃ r, innD a b μ = .ok r μ := by
  unfold innD
  repeat' (first | exact .inl rfl | exact .inr ⟨_, rfl⟩ | split)
theorem o_inA (S : Sx Γ C k X W) : Op2 Γ X W σ0 cx .inn (compareOp .In) := by
  intro pins s σ H x y v u Q I rx ry hh
  obtain ⟨w, μ, ds, ok, rv, p⟩ := hh
  obtain ⟨a, b, rfl, ra, rb⟩ := rv.two
  have p' : postE Γ W σ0 w Q ((innD a b μ).bind okB) := p
  rcases innD_pure a b μ with e | ⟨r, e⟩
  · rw [e] at p'; exact p'.elim
  · rw [e] at p'
    refine o_in S.hK S.room pins s σ H x y v u Q I rx ry ⟨w, μ, a, b, r, ok, ra, rb, e, postE.vp (W := W) p' ok (.bl r)⟩
theorem o_ninA (S : Sx Γ C k X W) : Op2 Γ X W σ0 cx .nin (compareOp .NotIn) := by
  intro pins s σ H x y v u Q I rx ry hh
  obtain ⟨w, μ, ds, ok, rv, p⟩ := hh
  obtain ⟨a, b, rfl, ra, rb⟩ := rv.two
  have p' : postE Γ W σ0 w Q ((innD a b μ).bind fun b μ => okB (!b) μ) := p
  rcases innD_pure a b μ with e | ⟨r, e⟩
  · rw [e] at p'; exact p'.elim
  · rw [e] at p'
    refine o_notIn S.hK S.room pins s σ H x y v u Q I rx ry ⟨w, μ, a, b, r, ok, ra, rb, e, postE.vp (W := W) p' ok (.bl _)⟩
theorem opOf_ok (S : Sx Γ C k X W) {op : Operator} {o : Op} (h : opOf op = some o) : o ≠ .not ∧ ∀ σ0, Op2 Γ X W σ0 cx o (binaryOp op) := by
  cases op <;> first | (cases h; done) | (cases h; refine ⟨by simp, fun σ0 => ?_⟩)
  · exact o_add (nw := false) S.hK
  · exact o_sub
  · exact o_mul (nw := false) S.hK
  · exact o_mod
  · exact o_pow
  · exact o_fdiv
def nwOp (o : Op) : Bool := match o with
  | .add | .mul => true
  | _ => false
theorem opOf_okN (S : Sx Γ C k X W) {nw : Bool} {op : Operator} {o : Op} (h : opOf op = some o) (hn : nwOp o = true) : ∀ σ0, Op2N nw Γ X W σ0 cx o (binaryOp op) := by
  cases op <;> first | (cases h; done) | (cases h; first | (cases hn; done) | intro σ0)
  · exact o_add S.hK
  · exact o_mul S.hK
theorem cmpOf_ok (S : Sx Γ C k X W) (V : Ev Γ B k cx D0) (hB : baOf X = B) {op : CmpOp} {o : Op} (h : cmpOf op = some o) : o ≠ .not ∧ ∀ σ0, Op2 Γ X W σ0 cx o (compareOp op) := by
  cases op <;> first | (cases h; done) | (cases h; refine ⟨by simp, fun σ0 => ?_⟩)
  · exact V.eq S hB σ0
  · exact V.ne S hB σ0
  · exact o_lt
  · exact o_le
  · exact o_gt
  · exact o_ge
  · exact o_inA S
  · exact o_ninA S
/-- a comparison's operation, in of instances among them -/
def cmpB (op : CmpOp) (o : Op) : Bool := decide (cmpOf op = some o) || (match op, o with
  | .In, .inO => true
  | _, _ => false)
theorem cmpB_ok (S : Sx Γ C k X W) (V : Ev Γ B k cx D0) (hB : baOf X = B) {op : CmpOp} {o : Op} (h : cmpB op o = true) : o ≠ .not ∧ ∀ σ0, Op2 Γ X W σ0 cx o (compareOp op) := by
  unfold cmpB at h
  rw [Bool.or_eq_true] at h
  rcases h with h | h
  · exact cmpOf_ok S V hB (of_decide_eq_true h)
  · split at h
    · exact ⟨by simp, V.ino S hB⟩
    · cases h
theorem bind_bl {r : R Bool} {f : Bool → Mu → R D} (hf : ∀ b μ d μ', f b μ = .ok d μ' → ∃ k, d = .bl k) {d : D} {μ' : Mu} (h : r.bind f = .ok d μ') : ∃ k, d = .bl k := by
  cases r with
  | ok b μ1 => exact hf b μ1 d μ' h
  | exc => cases h
  | stuck => cases h
theorem okB_bl {b : Bool} {μ : Mu} {d : D} {μ' : Mu} (h : okB b μ = .ok d μ') : ∃ k, d = .bl k := by cases h; exact ⟨_, rfl⟩
theorem cmpOf_bl {op : CmpOp} {o : Op} (h : cmpOf op = some o) : BlOp cx o := by
  intro ds μ d μ' e
  cases op <;> first | (cases h; done) | cases h
  all_goals
    match ds, e with
    | [], e => cases e
    | [a], e => first | (cases e; done) | (cases a <;> cases e)
    | a :: b :: c :: r, e => first | (cases e; done) | (cases a <;> first | (cases e; done) | (cases b <;> cases e))
    | [a, b], e => ?_
  · exact bind_bl (fun _ _ _ _ => okB_bl) e
  · exact bind_bl (fun _ _ _ _ => okB_bl) e
  all_goals first
    | exact bind_bl (fun _ _ _ _ => okB_bl) e
    | (cases a <;> first | (cases e; done) | (cases b <;> first | (cases e; done) | exact okB_bl e))
theorem inO_bl {a : D} : ∀ {xs : List D} {μ : Mu} {d : D} {μ' : Mu}, inO cx a xs μ = .ok d μ' → ∃ k, d = .bl k
  | [], _, _, _, e => by cases e; exact ⟨_, rfl⟩
  | x :: r, μ, d, μ', e => by
    unfold inO at e
    split at e
    · split at e
      · split at e
        · split at e
          · cases e; exact ⟨_, rfl⟩
          · split at e
            · exact inO_bl e
            · cases e
        · cases e
      · cases e
    · cases e
theorem cmpB_bl {op : CmpOp} {o : Op} (h : cmpB op o = true) : BlOp cx o := by
  unfold cmpB at h
  rw [Bool.or_eq_true] at h
  rcases h with h | h
  · exact cmpOf_bl (of_decide_eq_true h)
  · split at h
    · intro ds μ d μ' e
      match ds, e with
      | [], e => cases e
      | [a], e => cases e
      | a :: b :: c :: r, e => cases b <;> cases e
      | [a, b], e =>
        cases b <;> first | (cases e; done) | skip
        exact inO_bl (show inO cx a _ μ = .ok d μ' from e)
    · cases h
/-- an answer that is True or False -/
theorem bl_test {x : E} {σ : St} {H : Hp} {Q : Bool → Hp → Prop} (hp : x.plain = true) (hb : ∀ ρ μ d μ', ev cx x ρ μ = .ok d μ' → ∃ k, d = .bl k) (h : rdT Γ W cx x σ H Q) : rdE Γ W (ev cx x) σ H fun z H' => ∃ k, z = .bl k ∧ Q k H' := by
  obtain ⟨w, ρ, μ, ds, g, rv, p⟩ := h
  refine ⟨w, ρ, μ, [], g, trivial, ?_⟩
  simp only [evb_plain hp] at p
  dsimp only
  cases e : ev cx x ρ μ with
  | ok d μ1 =>
    obtain ⟨b, rfl⟩ := hb _ _ _ _ e
    rw [e] at p
    exact fun w1 v H1 le ok r => ⟨b, r.bl_, p w1 H1 le ok⟩
  | exc c ns vs μ1 => rw [e] at p; exact p
  | stuck => rw [e] at p; exact p
theorem chn_bl {o1 o2 : Op} {a b c : E} (h2 : BlOp cx o2) : ∀ ρ μ d μ', ev cx (.chn o1 o2 a b c) ρ μ = .ok d μ' → ∃ k, d = .bl k := by
  intro ρ μ d μ' e
  rw [ev_chn] at e
  cases e1 : ev cx a ρ μ with
  | exc => rw [e1] at e; cases e
  | stuck => rw [e1] at e; cases e
  | ok x μ1 =>
    rw [e1, R.ok_bind] at e
    cases e2 : ev cx b ρ μ1 with
    | exc => rw [e2] at e; cases e
    | stuck => rw [e2] at e; cases e
    | ok y μ2 =>
      rw [e2, R.ok_bind] at e
      cases e3 : toB (opD cx o1 [x, y] μ2) with
      | exc => rw [e3] at e; cases e
      | stuck => rw [e3] at e; cases e
      | ok k μ3 =>
        rw [e3, R.ok_bind] at e
        cases k with
        | false => cases e; exact ⟨_, rfl⟩
        | true =>
          cases e4 : ev cx c ρ μ3 with
          | exc => dsimp only at e; rw [e4] at e; cases e
          | stuck => dsimp only at e; rw [e4] at e; cases e
          | ok z μ4 =>
            dsimp only at e
            rw [e4, R.ok_bind] at e
            exact h2 _ _ _ _ e
variable {a b c : Expr} {x y z : E} {pos : Pos}
theorem s_chnE {op1 op2 : CmpOp} {o1 o2 : Op} (S : Sx Γ C k X W) (V : Ev Γ B k cx D0) (hB : baOf X = B) (h1 : cmpOf op1 = some o1) (h2 : cmpOf op2 = some o2) (hm : lastMarks [op1, op2] [b, c] = false) (ha : PE X a (rdE Γ W (ev cx x))) (hb : PE X b (rdE Γ W (ev cx y))) (hc : PE X c (rdE Γ W (ev cx z))) :
    PE X (.Compare a [op1, op2] [b, c] pos) (rdE Γ W (ev cx (.chn o1 o2 x y z))) :=
  ⟨fun pins s σ H Q I h => (pe_chain ((cmpOf_ok S V hB h1).2 σ) ((cmpOf_ok S V hB h2).2 σ) ha hb hc hm).run pins s σ H Q I
    (s_chn (op2 := op2) (c := c) (X := X) (a := a) (b := b) (op1 := op1) (cmpOf_bl h1) (cmpOf_ok S V hB h1).2 (cmpOf_ok S V hB h2).2 (by
      have : lastMarks [op1, op2] [b, c] = behindInMarks op2 c := rfl
      rw [← this]; exact hm) ha hb hc (pins := pins) h)⟩
theorem st_chn {op1 op2 : CmpOp} {o1 o2 : Op} (S : Sx Γ C k X W) (V : Ev Γ B k cx D0) (hB : baOf X = B) (h1 : cmpOf op1 = some o1) (h2 : cmpOf op2 = some o2) (hm : lastMarks [op1, op2] [b, c] = false) (ha : PE X a (rdE Γ W (ev cx x))) (hb : PE X b (rdE Γ W (ev cx y))) (hc : PE X c (rdE Γ W (ev cx z))) :
    PT X (.Compare a [op1, op2] [b, c] pos) (rdT Γ W cx (.chn o1 o2 x y z)) :=
  ⟨fun pins s σ H Q I h => (pt_chain ((cmpOf_ok S V hB h1).2 σ) ((cmpOf_ok S V hB h2).2 σ) ha hb hc hm).run pins s σ H Q I
    (s_chn (op2 := op2) (c := c) (X := X) (a := a) (b := b) (op1 := op1) (cmpOf_bl h1) (cmpOf_ok S V hB h1).2 (cmpOf_ok S V hB h2).2 (by
      have : lastMarks [op1, op2] [b, c] = behindInMarks op2 c := rfl
      rw [← this]; exact hm) ha hb hc (pins := pins) (bl_test (x := .chn o1 o2 x y z) rfl (chn_bl (cmpOf_bl h2)) h))⟩
/-! a test by a value -/
def trPlain : Expr → Bool
  | .UnaryOp .Not _ _ | .BoolOp _ _ _ | .IfExp _ _ _ _ | .Compare _ _ _ _ => false
  | _ => true
theorem tr_eq {a : Expr} {env : Env} (h : trPlain a = true) (whole : Sem Value) : isTrue a env whole = (do let v ← whole; standAt a.pos; holding [v] (truthy v)) := by
  cases a <;> first | rfl | (cases h; done) | skip
  rename_i op _ _
  cases op <;> first | rfl | cases h
theorem st_val (S : Sx Γ C k X W) (V : Ev Γ B k cx D0) (hB : baOf X = B) (hx : x.plain = true) (ht : trPlain a = true) (ha : PE X a (rdE Γ W (ev cx x))) : PT X a (rdT Γ W cx x) :=
  st_plain (V.tru S hB) hx (tr_eq ht) ha
end
end KP
end

section
set_option maxRecDepth 100000
set_option maxHeartbeats 4000000
/-! KP18: is this small term that piece of the program? A check, by values. -/
namespace KP
open PySem PySem.Spec PyProof.Rows L2
structure Ck where
  e : Cv → Bool → Expr → E → Bool
  t : Cv → Expr → E → Bool
  s : Cv → Stmt → S → Bool
def noSt (xs : List E) : Bool := xs.all fun x => !x.isSt
def ckA1 (r : Ck) (C : Cv) (e : Expr) (x : E) : Bool := match x with
  | .st y => (match e with
    | .Starred a _ => r.e C false a y
    | _ => false)
  | _ => r.e C false e x
def ckA (r : Ck) (C : Cv) : List Expr → List E → Bool
  | [], [] => true
  | e :: es, x :: xs => ckA1 r C e x && ckA r C es xs
  | _, _ => false
def ckK (r : Ck) (C : Cv) : List Keyword → List E → Bool
  | [], [] => true
  | ⟨_, e, _⟩ :: ks, x :: xs => r.e C false e x && ckK r C ks xs
  | _, _ => false
def conD : Const → Option D
  | .none => some .non
  | .bool b => some (.bl b)
  | .int i => some (.int i)
  | .str s => some (.str s)
  | _ => none
def ckName (C : Cv) (nw : Bool) (z : Str) (x : E) : Bool := !nw && (match x with
  | .v i => C.vis i z
  | .c d => decide (C.glo z = some (.val d))
  | _ => false)
def ckCon (nw : Bool) (c : Const) (x : E) : Bool := !nw && (match x with
  | .c d => decide (conD c = some d)
  | _ => false)
def ckUn (r : Ck) (C : Cv) (nw : Bool) (op : UnaryOp) (a : Expr) (x : E) : Bool := !nw && (match op, x with
  | .USub, .op .neg [y] => r.e C false a y
  | .Not, .op .not [y] => r.e C false a y && (r.t C a y && y.plain)
  | _, _ => false)
def ckBin (r : Ck) (C : Cv) (nw : Bool) (a : Expr) (op : Operator) (b : Expr) (x : E) : Bool := match x with
  | .op o [y, z] => (!nw || nwOp o) && (decide (opOf op = some o) && (r.e C false a y && r.e C false b z))
  | _ => false
def ckIfe (r : Ck) (C : Cv) (nw : Bool) (c a b : Expr) (x : E) : Bool := !nw && (match x with
  | .ife z y1 y2 => r.t C c z && (r.e C false a y1 && r.e C false b y2)
  | _ => false)
def ckTup (r : Ck) (C : Cv) (nw : Bool) (es : List Expr) (x : E) : Bool := !nw && (match x with
  | .tup xs => ckA r C es xs
  | _ => false)
def ckLst (r : Ck) (C : Cv) (es : List Expr) (x : E) : Bool := match x with
  | .lst xs => ckA r C es xs
  | _ => false
def ckB (r : Ck) (C : Cv) (op : BoolOp) : List Expr → E → Bool
  | [], _ => false
  | a :: rest, x => (match rest with
    | [] => r.e C false a x
    | _ :: _ => (match x with
      | .and y z => decide (op = .And) && (r.e C false a y && ckB r C op rest z)
      | .or y z => decide (op = .Or) && (r.e C false a y && ckB r C op rest z)
      | _ => false))
def ckBT (r : Ck) (C : Cv) (op : BoolOp) : List Expr → E → Bool
  | [], _ => false
  | a :: rest, x => (match rest with
    | [] => r.t C a x
    | _ :: _ => (match x with
      | .and y z => decide (op = .And) && (r.t C a y && ckBT r C op rest z)
      | .or y z => decide (op = .Or) && (r.t C a y && ckBT r C op rest z)
      | _ => false))
def ckSub (r : Ck) (C : Cv) (nw : Bool) (a sl : Expr) (x : E) : Bool := match x with
  | .op .idx [y, z] => !nw && (notSl sl && (r.e C false a y && r.e C false sl z))
  | .sl0 y => (match sl with
    | .Slice none none none _ => r.e C false a y
    | _ => false)
  | .slL y l => (match sl with
    | .Slice (some b) none none _ => r.e C false a y && r.e C false b l
    | _ => false)
  | .slU y u => (match sl with
    | .Slice none (some b) none _ => r.e C false a y && r.e C false b u
    | _ => false)
  | .slB y l u => (match sl with
    | .Slice (some b) (some c) none _ => r.e C false a y && (r.e C false b l && r.e C false c u)
    | _ => false)
  | .op (.kidx t) [z] => !nw && (match a with
    | .Name n _ => decide (C.glo n = some (.kdt t)) && (notSl sl && r.e C false sl z)
    | _ => false)
  | .op .rev [y] => (match sl with
    | .Slice none none (some (.UnaryOp .USub (.Constant (.int 1) _ _) _)) _ => r.e C false a y
    | _ => false)
  | _ => false
def isNoneE : Expr → Bool
  | .Constant .none _ _ => true
  | _ => false
def ckCmp (r : Ck) (C : Cv) (a : Expr) (ops : List CmpOp) (bs : List Expr) (x : E) : Bool := match ops, bs, x with
  | [op], [b], .op o [y, z] => cmpB op o && (!behindInMarks op b && (r.e C false a y && r.e C false b z))
  | [op], [b], .op o [y] => r.e C false a y && (match b, op, o with
    | .Constant .none _ _, .Is, .isN => true
    | .Constant .none _ _, .IsNot, .notN => true
    | .Constant (.bool k) _ _, .Is, .isT k2 => decide (k = k2)
    | .Constant (.bool k) _ _, .IsNot, .notT k2 => decide (k = k2)
    | _, _, _ => false)
  | [o1, o2], [b, c], .chn p1 p2 y z u => decide (cmpOf o1 = some p1) && (decide (cmpOf o2 = some p2) && (!lastMarks [o1, o2] [b, c] && (r.e C false a y && (r.e C false b z && r.e C false c u))))
  | _, _, _ => false
def kwN (kws : List Keyword) : List Str := kws.filterMap (·.arg)
def ckCallF (G : Gd) (r : Ck) (C : Cv) (z : Str) (args : List Expr) (kws : List Keyword) (f : Nat) (es : List E) (pm : List Nat) : Bool := match C.glo z, G.pn f with
  | some (.fn g), some ps => decide (g = f) && (args.all notSt && (noSt es && (decide (kws.map (·.arg) = (kwN kws).map some) && (decide (args.length + kws.length = es.length) && (pmOk args.length (kwN kws) ps pm && (ckA r C args (es.take args.length) && ckK r C kws (es.drop args.length)))))))
  | _, _ => false
def ckIsi (r : Ck) (C : Cv) (z : Str) (args : List Expr) (ts : List Ty) (y : E) : Bool := decide (z = "isinstance") && (decide (C.glo "isinstance" = some .free) && (match args with
  | [a, .Name z2 _] => notSt a && (r.e C false a y && (match ts with
    | [t] => decide (tyNm C z2 = some t)
    | _ => false))
  | [a, .Tuple zs _ _] => notSt a && (r.e C false a y && (decide (tyNms C zs = some ts) && (decide (ts.length ≤ 1000) && !ts.isEmpty)))
  | _ => false))
def ckBlt (r : Ck) (C : Cv) (nw : Bool) (z : Str) (args : List Expr) (o : Op) (xs : List E) : Bool := decide (C.glo z = some .free) && (!args.isEmpty && (args.all notSt && (noSt xs && (ckA r C args xs && (match nw with
  | true => decide (z = "list") && (decide (o = .tolst) && decide (xs.length = 1))
  | false => bltT.any fun t => decide (t.nm = z) && (decide (t.n = xs.length) && decide (t.o = o)))))))
def ckBm (r : Ck) (C : Cv) (nw : Bool) (a : Expr) (m : Str) (apos cpos : Pos) (args : List Expr) (o : Op) (y : E) (xs : List E) : Bool := baseOk a && (!args.isEmpty && (args.all notSt && (decide (args.length < 30) && ((apos.endLine == cpos.line) && (r.e C false a y && (ckA r C args xs && ((!nw || decide (o = .split)) && bmtT.any fun t => decide (t.nm = m) && decide (t.o = o))))))))
def ckLam (G : Gd) (r : Ck) (C : Cv) (z : Str) (args : List Expr) (g : Nat) (y : E) : Bool := match args with
  | [.Lambda params body scope _] => decide (C.glo z = some (.ctc g)) && (C.lm.isSome && ((match oneD params with
    | some a => lamDB C.sc scope C.N a
    | none => LamX.lamSB C.sc scope && noPar params) && ((G.T.ct g).isSome && r.e (C.lam scope) false body y)))
  | _ => false
/-- the arguments of a call, by their writing -/
def ckArgs (r : Ck) (C : Cv) (args : List Expr) (kws : List Keyword) (es : List E) : Bool := args.all notSt && (noSt es && (decide (kws.map (·.arg) = (kwN kws).map some) && (decide (args.length + kws.length = es.length) && (ckA r C args (es.take args.length) && ckK r C kws (es.drop args.length)))))
def ckMk (G : Gd) (r : Ck) (C : Cv) (z : Str) (args : List Expr) (kws : List Keyword) (c : Nat) (es : List E) (pm : List Nat) : Bool := decide (C.glo z = some (.cls c)) && (ckArgs r C args kws es && (match G.T.cl c with
  | some i => decide (i.kind < 2) && (match i.init with
    | some f => (match G.pn f with
      | some ps => pmOk (args.length + 1) (kwN kws) ps (0 :: pm.map (· + 1))
      | none => false)
    | none => false)
  | none => false))
def ckMs (G : Gd) (n m : Nat) (ks : List Str) (pm : List Nat) : Bool := G.ms.all fun q => decide (q.1 ≠ m) || (match G.pn q.2 with
  | some ps => pmOk n ks ps pm
  | none => false)
def ckMth (G : Gd) (r : Ck) (C : Cv) (a : Expr) (name : Str) (apos pos : Pos) (args : List Expr) (kws : List Keyword) (m : Nat) (y : E) (es : List E) (pm : List Nat) : Bool := decide (C.nm m = name) && (baseOk a && (decide (args.length + kws.length < 28) && ((apos.endLine == pos.line) && (r.e C false a y && (ckArgs r C args kws es && ckMs G (args.length + 1) m (kwN kws) pm)))))
def ckSm (G : Gd) (r : Ck) (C : Cv) (a : Expr) (name : Str) (apos pos : Pos) (args : List Expr) (kws : List Keyword) (f : Nat) (es : List E) (pm : List Nat) : Bool := match a with
  | .Name z _ => (match C.glo z with
    | some (.cls c) => decide ((c, name, f) ∈ G.sm) && (decide (args.length + kws.length < 28) && ((apos.endLine == pos.line) && (ckArgs r C args kws es && (match G.pn f with
      | some ps => pmOk args.length (kwN kws) ps pm
      | none => false))))
    | _ => false)
  | _ => false
def ckStrO (r : Ck) (C : Cv) (z : Str) (args : List Expr) (y : E) : Bool := decide (z = "str") && (decide (C.glo "str" = some .free) && (match args with
  | [a] => notSt a && (!y.isSt && ckA r C [a] [y])
  | _ => false))
def ckLrng (r : Ck) (C : Cv) (nm z : Str) (args : List Expr) (y : E) : Bool := decide (z = nm) && (decide (C.glo nm = some .free) && (decide (C.glo "range" = some .free) && (match args with
  | [.Call (.Name z2 _) [a] [] _] => decide (z2 = "range") && r.e C false a y
  | _ => false)))
def ckLenset (r : Ck) (C : Cv) (z : Str) (args : List Expr) (y : E) : Bool := decide (z = "len") && (decide (C.glo "len" = some .free) && (decide (C.glo "set" = some .free) && (!y.isSt && (match args with
  | [.Call (.Name z2 _) [a] [] _] => decide (z2 = "set") && (notSt a && r.e C false a y)
  | _ => false))))
def ckKget (r : Ck) (C : Cv) (a : Expr) (m : Str) (apos pos : Pos) (args : List Expr) (t : List (Str × D)) (y z : E) : Bool := match a, args with
  | .Name n _, [e, f] => decide (m = "get") && (decide (C.glo n = some (.kdt t)) && ((apos.endLine == pos.line) && (([e, f] : List Expr).all notSt && ckA r C [e, f] [y, z])))
  | _, _ => false
def ckCall (G : Gd) (r : Ck) (C : Cv) (nw : Bool) (f : Expr) (args : List Expr) (kws : List Keyword) (pos : Pos) (x : E) : Bool := match f, x with
  | .Name z _, .call g es pm => !nw && ckCallF G r C z args kws g es pm
  | .Name z _, .op (.isi ts) [y] => !nw && (kws.isEmpty && ckIsi r C z args ts y)
  | .Name z _, .mk c es pm => !nw && ckMk G r C z args kws c es pm
  | .Attribute a m apos, .mth n y es pm => !nw && ckMth G r C a m apos pos args kws n y es pm
  | .Attribute a m apos, .call f es pm => !nw && ckSm G r C a m apos pos args kws f es pm
  | .Name z _, .op .tosO [y] => !nw && (kws.isEmpty && ckStrO r C z args y)
  | .Name z _, .op .lenset [y] => !nw && (kws.isEmpty && ckLenset r C z args y)
  | .Name z _, .op .lrng [y] => kws.isEmpty && ckLrng r C "list" z args y
  | .Name z _, .op .trng [y] => !nw && (kws.isEmpty && ckLrng r C "tuple" z args y)
  | .Name z _, .lam g y => !nw && (kws.isEmpty && ckLam G r C z args g y)
  | .Attribute a m apos, .op (.kget t) [y, z] => !nw && (kws.isEmpty && ckKget r C a m apos pos args t y z)
  | .Name z _, .op o xs => kws.isEmpty && ckBlt r C nw z args o xs
  | .Attribute a m apos, .bm o y xs => kws.isEmpty && ckBm r C nw a m apos pos args o y xs
  | _, _ => false
def notSet : Expr → Bool
  | .Set _ _ _ => false
  | _ => true
def isTupE : Expr → Bool
  | .Tuple _ _ _ => true
  | _ => false
def ckI (r : Ck) (C : Cv) (tg iter : Expr) (kk : ItK) (es : List E) : Bool := match kk, es with
  | .seq, [x] => r.e C false iter x
  | .rng1, [x] => (match iter with
    | .Call (.Name z _) [a] [] _ => decide (z = "range") && (decide (C.glo "range" = some .free) && (notSt a && ckA r C [a] [x]))
    | _ => false)
  | .rng2, [x, y] => (match iter with
    | .Call (.Name z _) [a, b] [] _ => decide (z = "range") && (decide (C.glo "range" = some .free) && (notSt a && (notSt b && ckA r C [a, b] [x, y])))
    | _ => false)
  | .zip, [x, y] => isTupE tg && (match iter with
    | .Call (.Name z _) [a, b] [] _ => decide (z = "zip") && (decide (C.glo "zip" = some .free) && (notSt a && (notSt b && ckA r C [a, b] [x, y])))
    | _ => false)
  | .enum, [x] => isTupE tg && (match iter with
    | .Call (.Name z _) [a] [] _ => decide (z = "enumerate") && (decide (C.glo "enumerate" = some .free) && (notSt a && ckA r C [a] [x]))
    | _ => false)
  | _, _ => false
def nmSto (C : Cv) (p : Nat × Expr) : Bool := match p.2 with
  | .Name z _ => C.sto p.1 z
  | _ => false
def ckG (C : Cv) (tg : Expr) (g : G) : Bool := match tg, g with
  | .Name z _, .nm i => C.sto i z
  | .Tuple es _ _, .tp is => decide (is.length = es.length) && (es.all notSt && (is.zip es).all (nmSto C))
  | _, _ => false
def ckCs (r : Ck) (C : Cv) (ifs : List Expr) (cs : List E) : Bool := match ifs, cs with
  | [], [] => true
  | [a], [x] => r.t C a x
  | _, _ => false
def ownOf (C : Cv) (ow : List Nat) : List (Str × Nat) := ow.map fun i => ((C.N[i]?).getD Str.empty, i)
def ckComp (r : Ck) (C : Cv) (elt : Expr) (gens : List Comprehension) (scope : Scope) (x : E) : Bool := match gens, x with
  | [⟨tg, iter, ifs, ia⟩], .cmp ow y g kk es cs => decide (ia = 0) && (notSet iter && (blkC C.N C.sc scope (ownOf C ow) && ((gIdx g).all (fun i => decide (i ∈ ow)) && (ckI r C tg iter kk es && (ckG (C.blk scope) tg g && (ckCs r (C.blk scope) ifs cs && r.e (C.blk scope) false elt y))))))
  | [⟨tg, iter, ifs, ia⟩], .cmpR ow y g kk es cs => !C.bl && (decide (ia = 0) && (notSet iter && (blkC C.N C.sc scope (ownOf C ow) && ((gIdx g).all (fun i => decide (i ∈ ow)) && (ckI r C tg iter kk es && (ckG (C.blk scope) tg g && (ckCs r (C.blk scope) ifs cs && r.e (C.blk scope) false elt y)))))))
  | [⟨tg, iter, ifs, ia⟩, ⟨tg1, iter1, ifs1, ia1⟩], .cmp2 ow ow1 y g kk es cs g1 k1 es1 cs1 => decide (ia = 0 ∧ ia1 = 0) && (notSet iter && (notSet iter1 && (blkC C.N C.sc scope (ownOf C ow) && (ow1.all (fun i => decide (i ∈ ow)) && ((gIdx g).all (fun i => decide (i ∈ ow)) && ((gIdx g1).all (fun i => decide (i ∈ ow1)) && (ckI r C tg iter kk es && (ckG (C.blk scope) tg g && (ckCs r (C.blk scope) ifs cs && (ckI r (C.blk scope) tg1 iter1 k1 es1 && (ckG (C.blk scope) tg1 g1 && (ckCs r (C.blk scope) ifs1 cs1 && r.e (C.blk scope) false elt y))))))))))))
  | _, _ => false
def ckFld (r : Ck) (C : Cv) (a : Expr) (f : Str) (x : E) : Bool := match x with
  | .fld y n => decide (C.nm n = f) && (baseOk a && r.e C false a y)
  | _ => false
def ckDct (r : Ck) (C : Cv) (keys : List (Option Expr)) (vs : List Expr) (x : E) : Bool := match x with
  | .dct ks xs => (keys.isEmpty && (vs.isEmpty && (ks.isEmpty && xs.isEmpty))) || (!keys.isEmpty && (decide (keys.length ≤ 15) && (noSt xs && ckPairs (r.e C false) keys vs ks xs)))
  | _ => false
def ckE0 (G : Gd) (r : Ck) (C : Cv) (nw : Bool) (e : Expr) (x : E) : Bool := match e with
  | .Name z _ => ckName C nw z x
  | .Constant c _ _ => ckCon nw c x
  | .UnaryOp op a _ => ckUn r C nw op a x
  | .BinOp a op b _ => ckBin r C nw a op b x
  | .IfExp c a b _ => ckIfe r C nw c a b x
  | .Tuple es _ _ => ckTup r C nw es x
  | .List es _ => ckLst r C es x
  | .BoolOp op vs _ => !nw && ckB r C op vs x
  | .Subscript a sl _ => ckSub r C nw a sl x
  | .Compare a ops bs _ => !nw && ckCmp r C a ops bs x
  | .Call f args kws pos => ckCall G r C nw f args kws pos x
  | .Attribute a f _ => !nw && ckFld r C a f x
  | .Dict keys vs _ => ckDct r C keys vs x
  | .ListComp elt gens scope _ => ckComp r C elt gens scope x
  | _ => false
def ckE (G : Gd) (r : Ck) (C : Cv) (nw : Bool) (e : Expr) (x : E) : Bool := match x with
  | .nw y => !nw && ckE0 G r C true e y
  | .frz y => !nw && ckE0 G r C false e y
  | _ => ckE0 G r C nw e x
def ckT (r : Ck) (C : Cv) (a : Expr) (x : E) : Bool := match a with
  | .UnaryOp .Not b _ => (match x with
    | .op .not [y] => r.t C b y
    | _ => false)
  | .BoolOp op vs _ => ckBT r C op vs x
  | .Compare b ops bs _ => ckCmp r C b ops bs x
  | .IfExp _ _ _ _ => false
  | e => trPlain e && (x.plain && r.e C false e x)
/-! statements -/
def ckSs (r : Ck) (C : Cv) : List Stmt → List S → Bool
  | [], [] => true
  | st :: sts, s :: ss => r.s C st s && ckSs r C sts ss
  | _, _ => false
/-- a comprehension that is stored at once; or anything else -/
def swOf (sc : Scope) (e : Expr) (z : Str) (p : Pos) : Option Bool := match e with
  | .ListComp _ _ scope pos => if sc.names.lookup z = some .local then (if (p.line == pos.line) = true ∧ (scope.names.any fun (n, k) => n == z && (k == .local || k == .cell)) = false then some true else none) else some false
  | .SetComp _ _ _ _ => none
  | .DictComp _ _ _ _ _ => none
  | _ => some false
def notComp : Expr → Bool
  | .ListComp _ _ _ _ | .SetComp _ _ _ _ | .DictComp _ _ _ _ _ => false
  | _ => true
def ckAsg (r : Ck) (C : Cv) (nw : Bool) (e : Expr) (x : E) (i : Nat) (z : Str) (p : Pos) : Bool := decide (C.sc.kind = .function) && (C.sto i z && (r.e C nw e x && (match swOf C.sc e z p with
  | some false => true
  | some true => (match e with
    | .ListComp elt gens scope _ => ckComp r C elt gens scope x
    | _ => false)
  | none => false)))
def ckPar (r : Ck) (C : Cv) (ts : List Expr) (e : Expr) (is : List Nat) (xs : List E) : Bool := match ts, e, is with
  | [.Name z1 p1, .Name z2 p2], .Tuple [a, b] _ _, [i, j] => decide (C.sc.kind = .function) && (decide (i ≠ j) && (C.vis i z1 && (C.vis j z2 && (decide (C.sc.names.lookup z1 = some .local) && (decide (C.sc.names.lookup z2 = some .local) && (decide (z1 ≠ z2) && (decide (p2.line = p1.line) && (notSt a && (notSt b && ((!([a, b].all (foldedForSure 8))) && ((!([a, b].all (constantsAlone 8))) && (noSt xs && (decide (xs.length = 2) && ckA r C [a, b] xs)))))))))))))
  | _, _, _ => false
/-- a tuple's targets are not all plain names of the def: no stores in another order -/
def swNone (sc : Scope) (ts : List Expr) (e : Expr) : Bool := match e with
  | .Tuple _ _ _ => ts.any fun t => match t with
    | .Name z _ => decide (sc.names.lookup z ≠ some .local)
    | _ => false
  | _ => true
def ckS0 (G : Gd) (r : Ck) (C : Cv) (st : Stmt) (s : S) : Bool := match st, s with
  | .Assign [.Name z p] e _, .set i x => ckAsg r C false e x i z p
  | .Assign [.Name z p] e _, .new i x => ckAsg r C true e x i z p
  | .Assign [.Tuple ts kt pt] e _, .unp is x => ckG C (.Tuple ts kt pt) (.tp is) && (r.e C false e x && swNone C.sc ts e)
  | .Assign [.Tuple ts _ _] e _, .par is xs => ckPar r C ts e is xs
  | .Assign [.Subscript o i _] e _, .sti ox ix x => notSl i && (r.e C false o ox && (r.e C false i ix && r.e C false e x))
  | .Assign [.Attribute o f _] e _, .stf ox n x => decide (C.nm n = f) && (notComp e && (r.e C false o ox && r.e C false e x))
  | .AugAssign (.Name z _) .Add e _, .aug i .add x => C.sto i z && r.e C false e x
  | .AugAssign (.Name z _) .Sub e _, .aug i .sub x => C.sto i z && r.e C false e x
  | .Expr e _, .ex x => notComp e && r.e C false e x
  | .Return none _, .ret0 => true
  | .Return (some e) _, .ret x => r.e C false e x
  | .Return (some e) _, .retn x => r.e C true e x
  | .If c a b _, .ife x s1 s2 => r.t C c x && (ckSs r C a s1 && ckSs r C b s2)
  | .For tg iter b [] _, .for g kk es ss => notSet iter && (ckI r C tg iter kk es && (ckG C tg g && ckSs r C b ss))
  | .While c b [] _, .whl x ss => r.t C c x && ckSs r C b ss
  | .Pass _, .pass => true
  | .Break _, .brk => true
  | .Continue _, .cont => true
  | .Raise (some (.Call (.Name z _) (e :: es) [] _)) none _, .rai c xs => decide (C.glo z = some (.cls c)) && ((e :: es).all notSt && (ckA r C (e :: es) xs && (match G.T.cl c with
    | some i => decide (i.kind = 2)
    | none => false)))
  | _, _ => false
/-- statements stand in no comprehension -/
def ckS (G : Gd) (r : Ck) (C : Cv) (st : Stmt) (s : S) : Bool := !C.bl && ckS0 G r C st s
def ck (G : Gd) : Nat → Ck
  | 0 => ⟨fun _ _ _ _ => false, fun _ _ _ => false, fun _ _ _ => false⟩
  | n + 1 => ⟨ckE G (ck G n), ckT (ck G n), ckS G (ck G n)⟩
end KP
end

section
set_option maxRecDepth 100000
set_option maxHeartbeats 4000000
/-! KP19: what the check lets through holds. -/
namespace KP
open PySem PySem.Spec PyProof.Rows L2
structure CkOk (Γ : Glob) (B : Ba) (k : Nat) (cx : Cxt) (r : Ck) : Prop where
  st : ∀ {C : Cv} {nw : Bool} {e : Expr} {x : E}, r.e C nw e x = true → x.isSt = false ∧ notSt e = true
  e : ∀ {C : Cv} {X : Cx} {W : WX} {nw : Bool} {e : Expr} {x : E}, Sx Γ C k X W → baOf X = B → r.e C nw e x = true → PE X e (rdE Γ W fun ρ μ => nwR nw (ev cx x ρ μ))
  t : ∀ {C : Cv} {X : Cx} {W : WX} {a : Expr} {x : E}, Sx Γ C k X W → baOf X = B → r.t C a x = true → PT X a (rdT Γ W cx x)
  s : ∀ {C : Cv} {X : Cx} {W : WX} {st : Stmt} {s : S}, Sx Γ C k X W → baOf X = B → r.s C st s = true → PS X st (rdS Γ W (ex cx s))
section
variable {Γ : Glob} {X : Cx} {W : WX} {cx : Cxt} {C : Cv} {k : Nat} {B : Ba} {G : Gd} {r : Ck}
theorem CkOk.e0 (R : CkOk Γ B k cx r) (S : Sx Γ C k X W) (hB : baOf X = B) {e : Expr} {x : E} (h : r.e C false e x = true) : PE X e (rdE Γ W (ev cx x)) := R.e S hB h
theorem l_A (R : CkOk Γ B k cx r) (S : Sx Γ C k X W) (hB : baOf X = B) : ∀ {es : List Expr} {xs : List E}, ckA r C es xs = true → PA X es (rdA Γ W (evs cx xs))
  | [], [], _ => sa_nil
  | [], _ :: _, h => by cases h
  | _ :: _, [], h => by cases h
  | e :: es, x :: xs, h => by
    rw [ckA, Bool.and_eq_true] at h
    obtain ⟨h1, h2⟩ := h
    have ih := l_A R S hB h2
    have gen : r.e C false e x = true → PA X (e :: es) (rdA Γ W (evs cx (x :: xs))) := fun h => by
      obtain ⟨a1, a2⟩ := R.st h
      exact sa_cons a1 (R.e0 S hB h) ih (se_plain a2)
    unfold ckA1 at h1
    split at h1
    · split at h1
      · exact sa_star S.hK (R.e0 S hB h1) ih
      · cases h1
    · exact gen h1
theorem l_K (R : CkOk Γ B k cx r) (S : Sx Γ C k X W) (hB : baOf X = B) : ∀ {ks : List Keyword} {xs : List E}, ckK r C ks xs = true → PK X ks (rdA Γ W (evs cx xs))
  | [], [], _ => sk_nil
  | [], _ :: _, h => by cases h
  | ⟨_, _, _⟩ :: _, [], h => by cases h
  | ⟨nm, e, p⟩ :: es, x :: xs, h => by
    rw [ckK, Bool.and_eq_true] at h
    exact sk_cons (R.st h.1).1 (R.e0 S hB h.1) (l_K R S hB h.2)
theorem nw_f {nw : Bool} (h : (!nw) = true) : nw = false := by cases nw <;> simp_all
variable {V : Ev Γ B k cx G} {nw : Bool} {x : E} {pos : Pos}
theorem l_name (S : Sx Γ C k X W) {z : Str} (h : ckName C nw z x = true) : x.isSt = false ∧ PE X (.Name z pos) (rdE Γ W fun ρ μ => nwR nw (ev cx x ρ μ)) := by
  unfold ckName at h
  rw [Bool.and_eq_true] at h
  obtain ⟨h0, h⟩ := h
  cases nw_f h0
  split at h
  · exact ⟨rfl, s_var S h⟩
  · exact ⟨rfl, s_val S (of_decide_eq_true h)⟩
  · cases h
theorem l_con {c : Const} {j : Nat} (h : ckCon nw c x = true) : x.isSt = false ∧ PE X (.Constant c j pos) (rdE Γ W fun ρ μ => nwR nw (ev cx x ρ μ)) := by
  unfold ckCon at h
  rw [Bool.and_eq_true] at h
  obtain ⟨h0, h⟩ := h
  cases nw_f h0
  split at h
  · have h := of_decide_eq_true h
    refine ⟨rfl, ?_⟩
    cases c with
    | none => cases h; exact s_const pe_non fun _ => .non
    | bool b => cases h; exact s_const pe_bl fun _ => .bl _
    | int i => cases h; exact s_const pe_int fun _ => .int _
    | str s => cases h; exact s_const pe_str fun _ => .str _
    | _ => cases h
  · cases h
theorem l_un (R : CkOk Γ B k cx r) (V : Ev Γ B k cx G) (S : Sx Γ C k X W) (hB : baOf X = B) {op : UnaryOp} {a : Expr} (h : ckUn r C nw op a x = true) : x.isSt = false ∧ PE X (.UnaryOp op a pos) (rdE Γ W fun ρ μ => nwR nw (ev cx x ρ μ)) := by
  unfold ckUn at h
  rw [Bool.and_eq_true] at h
  obtain ⟨h0, h⟩ := h
  cases nw_f h0
  split at h
  · exact ⟨rfl, s_un (by simp) (fun _ => o_neg) (R.st h).1 (R.e0 S hB h)⟩
  · rw [Bool.and_eq_true, Bool.and_eq_true] at h
    exact ⟨rfl, s_not (R.t S hB h.2.1) rfl (R.e0 S hB h.1) (fun ρ μ => evb_plain h.2.2) (V.tru S hB)⟩
  · cases h
theorem l_bin (R : CkOk Γ B k cx r) (S : Sx Γ C k X W) (hB : baOf X = B) {op : Operator} {a b : Expr} (h : ckBin r C nw a op b x = true) : x.isSt = false ∧ PE X (.BinOp a op b pos) (rdE Γ W fun ρ μ => nwR nw (ev cx x ρ μ)) := by
  unfold ckBin at h
  split at h
  · rename_i o y z
    simp only [Bool.and_eq_true, Bool.or_eq_true, decide_eq_true_eq] at h
    obtain ⟨h1, h2, h3, h4⟩ := h
    refine ⟨rfl, ?_⟩
    have hn := (opOf_ok (cx := cx) S h2).1
    rcases h1 with h1 | h1
    · cases nw_f h1
      exact s_bin (nw := false) hn (opOf_ok S h2).2 (R.st h3).1 (R.st h4).1 (R.e0 S hB h3) (R.e0 S hB h4)
    · exact s_bin hn (opOf_okN S h2 h1) (R.st h3).1 (R.st h4).1 (R.e0 S hB h3) (R.e0 S hB h4)
  · cases h
theorem l_ife (R : CkOk Γ B k cx r) (S : Sx Γ C k X W) (hB : baOf X = B) {c a b : Expr} (h : ckIfe r C nw c a b x = true) : x.isSt = false ∧ PE X (.IfExp c a b pos) (rdE Γ W fun ρ μ => nwR nw (ev cx x ρ μ)) := by
  unfold ckIfe at h
  rw [Bool.and_eq_true] at h
  obtain ⟨h0, h⟩ := h
  cases nw_f h0
  split at h
  · rw [Bool.and_eq_true, Bool.and_eq_true] at h
    exact ⟨rfl, s_ife (R.t S hB h.1) (R.e0 S hB h.2.1) (R.e0 S hB h.2.2)⟩
  · cases h
theorem l_tup (R : CkOk Γ B k cx r) (S : Sx Γ C k X W) (hB : baOf X = B) {es : List Expr} {kk : Nat} (h : ckTup r C nw es x = true) : x.isSt = false ∧ PE X (.Tuple es kk pos) (rdE Γ W fun ρ μ => nwR nw (ev cx x ρ μ)) := by
  unfold ckTup at h
  rw [Bool.and_eq_true] at h
  obtain ⟨h0, h⟩ := h
  cases nw_f h0
  split at h
  · exact ⟨rfl, s_tup (l_A R S hB h)⟩
  · cases h
theorem l_lst (R : CkOk Γ B k cx r) (S : Sx Γ C k X W) (hB : baOf X = B) {es : List Expr} (h : ckLst r C es x = true) : x.isSt = false ∧ PE X (.List es pos) (rdE Γ W fun ρ μ => nwR nw (ev cx x ρ μ)) := by
  unfold ckLst at h
  split at h
  · exact ⟨rfl, s_lst (l_A R S hB h)⟩
  · cases h
theorem l_B (R : CkOk Γ B k cx r) (V : Ev Γ B k cx G) (S : Sx Γ C k X W) (hB : baOf X = B) {op : BoolOp} : ∀ {vs : List Expr} {x : E}, ckB r C op vs x = true → x.isSt = false ∧ PE X (.BoolOp op vs pos) (rdE Γ W (ev cx x))
  | [], _, h => by cases h
  | [a], x, h => ⟨(R.st h).1, pe_one (R.e0 S hB h)⟩
  | a :: b :: rest, x, h => by
    unfold ckB at h
    dsimp only at h
    have h' := h
    clear h
    split at h'
    · simp only [Bool.and_eq_true, decide_eq_true_eq] at h'
      obtain ⟨rfl, h1, h2⟩ := h'
      exact ⟨rfl, s_and (V.tru S hB) (R.e0 S hB h1) (l_B R V S hB h2).2⟩
    · simp only [Bool.and_eq_true, decide_eq_true_eq] at h'
      obtain ⟨rfl, h1, h2⟩ := h'
      exact ⟨rfl, s_or (V.tru S hB) (R.e0 S hB h1) (l_B R V S hB h2).2⟩
    · cases h'
theorem l_BT (R : CkOk Γ B k cx r) (S : Sx Γ C k X W) (hB : baOf X = B) {op : BoolOp} : ∀ {vs : List Expr} {x : E}, ckBT r C op vs x = true → PW X (.BoolOp op vs pos) (rdT Γ W cx x)
  | [], _, h => by cases h
  | [a], x, h => by
    cases op with
    | And => exact pw_and1 (R.t S hB h)
    | Or => exact pw_or1 (R.t S hB h)
  | a :: b :: rest, x, h => by
    unfold ckBT at h
    dsimp only at h
    have h' := h
    clear h
    split at h'
    · simp only [Bool.and_eq_true, decide_eq_true_eq] at h'
      obtain ⟨rfl, h1, h2⟩ := h'
      exact st_and (R.t S hB h1) (l_BT R S hB h2)
    · simp only [Bool.and_eq_true, decide_eq_true_eq] at h'
      obtain ⟨rfl, h1, h2⟩ := h'
      exact st_or (R.t S hB h1) (l_BT R S hB h2)
    · cases h'
theorem plainIx {b : Expr} (h : notSl b = true) : PlainIx b := fun o i => by cases b <;> first | rfl | cases h
theorem l_sub (R : CkOk Γ B k cx r) (S : Sx Γ C k X W) (hB : baOf X = B) {a sl : Expr} (h : ckSub r C nw a sl x = true) : x.isSt = false ∧ PE X (.Subscript a sl pos) (rdE Γ W fun ρ μ => nwR nw (ev cx x ρ μ)) := by
  unfold ckSub at h
  split at h
  · simp only [Bool.and_eq_true] at h
    obtain ⟨h0, h1, h2, h3⟩ := h
    cases nw_f h0
    exact ⟨rfl, s_idx S.hK (plainIx h1) (R.st h2).1 (R.st h3).1 (R.e0 S hB h2) (R.e0 S hB h3)⟩
  · split at h
    · exact ⟨rfl, s_sl0 S (R.e0 S hB h)⟩
    · cases h
  · split at h
    · rw [Bool.and_eq_true] at h
      exact ⟨rfl, s_slL S (R.e0 S hB h.1) (R.e0 S hB h.2)⟩
    · cases h
  · split at h
    · rw [Bool.and_eq_true] at h
      exact ⟨rfl, s_slU S (R.e0 S hB h.1) (R.e0 S hB h.2)⟩
    · cases h
  · split at h
    · rw [Bool.and_eq_true, Bool.and_eq_true] at h
      exact ⟨rfl, s_slB S (R.e0 S hB h.1) (R.e0 S hB h.2.1) (R.e0 S hB h.2.2)⟩
    · cases h
  · rw [Bool.and_eq_true] at h
    cases nw_f h.1
    have h := h.2
    split at h
    · simp only [Bool.and_eq_true, decide_eq_true_eq] at h
      obtain ⟨h1, h2, h3⟩ := h
      exact ⟨rfl, s_kidx S h1 (plainIx h2) (R.st h3).1 (R.e0 S hB h3)⟩
    · cases h
  · split at h
    · exact ⟨rfl, s_rev S (R.st h).1 (R.e0 S hB h)⟩
    · cases h
  · cases h
theorem noneE {b : Expr} (h : isNoneE b = true) : ∃ j p, b = .Constant .none j p := by
  unfold isNoneE at h
  split at h
  · exact ⟨_, _, rfl⟩
  · cases h
theorem l_cmp (R : CkOk Γ B k cx r) (V : Ev Γ B k cx G) (S : Sx Γ C k X W) (hB : baOf X = B) {a : Expr} {ops : List CmpOp} {bs : List Expr} (h : ckCmp r C a ops bs x = true) :
    x.isSt = false ∧ PE X (.Compare a ops bs pos) (rdE Γ W (ev cx x)) ∧ PT X (.Compare a ops bs pos) (rdT Γ W cx x) := by
  unfold ckCmp at h
  split at h
  · simp only [Bool.and_eq_true, decide_eq_true_eq, Bool.not_eq_true'] at h
    obtain ⟨h1, h2, h3, h4⟩ := h
    have hc := cmpB_ok S V hB h1
    exact ⟨rfl, s_cmp hc.1 hc.2 h2 (R.st h3).1 (R.st h4).1 (R.e0 S hB h3) (R.e0 S hB h4), st_cmp hc.1 (cmpB_bl h1) hc.2 h2 (R.st h3).1 (R.st h4).1 (R.e0 S hB h3) (R.e0 S hB h4)⟩
  · simp only [Bool.and_eq_true] at h
    obtain ⟨h2, h3⟩ := h
    split at h3
    · exact ⟨rfl, s_isN (R.st h2).1 (R.e0 S hB h2), st_isN (R.st h2).1 (R.e0 S hB h2)⟩
    · exact ⟨rfl, s_notN (R.st h2).1 (R.e0 S hB h2), st_notN (R.st h2).1 (R.e0 S hB h2)⟩
    · have := of_decide_eq_true h3
      subst this
      exact ⟨rfl, s_isT (R.st h2).1 (R.e0 S hB h2), st_isT (R.st h2).1 (R.e0 S hB h2)⟩
    · have := of_decide_eq_true h3
      subst this
      exact ⟨rfl, s_notT (R.st h2).1 (R.e0 S hB h2), st_notT (R.st h2).1 (R.e0 S hB h2)⟩
    · cases h3
  · simp only [Bool.and_eq_true, decide_eq_true_eq, Bool.not_eq_true'] at h
    obtain ⟨h1, h2, h3, h4, h5, h6⟩ := h
    exact ⟨rfl, s_chnE S V hB h1 h2 h3 (R.e0 S hB h4) (R.e0 S hB h5) (R.e0 S hB h6), st_chn S V hB h1 h2 h3 (R.e0 S hB h4) (R.e0 S hB h5) (R.e0 S hB h6)⟩
  · cases h
theorem l_callF (R : CkOk Γ B k cx r) (V : Ev Γ B k cx G) (S : Sx Γ C k X W) (hB : baOf X = B) {z : Str} {args : List Expr} {kws : List Keyword} {f : Nat} {es : List E} {pm : List Nat} {p : Pos} (h : ckCallF G r C z args kws f es pm = true) :
    PE X (.Call (.Name z p) args kws pos) (rdE Γ W (ev cx (.call f es pm))) := by
  unfold ckCallF at h
  split at h
  · rename_i g ps hg hps
    simp only [Bool.and_eq_true, decide_eq_true_eq] at h
    obtain ⟨rfl, h1, h2, h3, h4, h5, h6, h7⟩ := h
    obtain ⟨j, hj, F⟩ := V.fn _ _ hps
    have e1 : (es.take args.length) ++ (es.drop args.length) = es := List.take_append_drop _ _
    have hl1 : (es.take args.length).length = args.length := by rw [List.length_take]; omega
    have hl2 : (es.drop args.length).length = (kwN kws).length := by
      rw [List.length_drop]
      have := congrArg List.length h3
      rw [List.length_map, List.length_map] at this
      omega
    have n1 : (es.take args.length).all (fun x => !x.isSt) = true := List.all_eq_true.mpr fun x hx => List.all_eq_true.mp h2 x (List.mem_of_mem_take hx)
    have n2 : (es.drop args.length).all (fun x => !x.isSt) = true := List.all_eq_true.mpr fun x hx => List.all_eq_true.mp h2 x (List.mem_of_mem_drop hx)
    have hF : FOk Γ X.prog X.w X.mg X.base j (cx.cf g) g ps := by
      have := F
      rw [← hB] at this
      exact this
    have := s_call (pos := pos) (p := p) S hj hF (by rw [hl1]; exact h5) hg h1 h3 hl2 n1 n2 (fun e => by rw [e]; rfl) (l_A R S hB h6) (l_K R S hB h7)
    rw [e1] at this
    exact this
  · cases h
theorem l_isi (R : CkOk Γ B k cx r) (V : Ev Γ B k cx G) (S : Sx Γ C k X W) (hB : baOf X = B) {z : Str} {args : List Expr} {ts : List Ty} {y : E} {p : Pos} (h : ckIsi r C z args ts y = true) :
    PE X (.Call (.Name z p) args [] pos) (rdE Γ W (ev cx (.op (.isi ts) [y]))) := by
  unfold ckIsi at h
  rw [Bool.and_eq_true, Bool.and_eq_true, decide_eq_true_eq, decide_eq_true_eq] at h
  obtain ⟨rfl, h1, h⟩ := h
  split at h
  · rw [Bool.and_eq_true, Bool.and_eq_true] at h
    obtain ⟨h2, h3, h4⟩ := h
    split at h4
    · exact s_isi1 S V.cl h1 (of_decide_eq_true h4) h2 (R.st h3).1 (R.e0 S hB h3)
    · cases h4
  · simp only [Bool.and_eq_true, decide_eq_true_eq] at h
    obtain ⟨h2, h3, h4, h5, h6⟩ := h
    exact s_isiT S V.cl h1 h4 ⟨h5, fun e => by rw [e] at h6; cases h6⟩ h2 (R.st h3).1 (R.e0 S hB h3)
  · cases h
theorem l_blt (R : CkOk Γ B k cx r) (S : Sx Γ C k X W) (hB : baOf X = B) {z : Str} {args : List Expr} {o : Op} {xs : List E} {p : Pos} (h : ckBlt r C nw z args o xs = true) :
    PE X (.Call (.Name z p) args [] pos) (rdE Γ W fun ρ μ => nwR nw (ev cx (.op o xs) ρ μ)) := by
  unfold ckBlt at h
  simp only [Bool.and_eq_true, decide_eq_true_eq] at h
  obtain ⟨h1, h2, h3, h4, h5, h6⟩ := h
  cases args with
  | nil => cases h2
  | cons e es =>
    have hA := l_A R S hB h5
    cases nw with
    | true =>
      simp only [Bool.and_eq_true, decide_eq_true_eq] at h6
      obtain ⟨rfl, rfl, h8⟩ := h6
      exact s_tolstN S h1 h3 h4 h8 hA
    | false =>
      obtain ⟨t, ht, q⟩ := List.any_eq_true.mp h6
      simp only [Bool.and_eq_true, decide_eq_true_eq] at q
      obtain ⟨rfl, q2, rfl⟩ := q
      exact s_blt S ht h1 h3 h4 q2.symm hA
theorem l_bm (R : CkOk Γ B k cx r) (S : Sx Γ C k X W) (hB : baOf X = B) {a : Expr} {m : Str} {apos : Pos} {args : List Expr} {o : Op} {y : E} {xs : List E} (h : ckBm r C nw a m apos pos args o y xs = true) :
    PE X (.Call (.Attribute a m apos) args [] pos) (rdE Γ W fun ρ μ => nwR nw (ev cx (.bm o y xs) ρ μ)) := by
  unfold ckBm at h
  simp only [Bool.and_eq_true, Bool.or_eq_true, decide_eq_true_eq] at h
  obtain ⟨h1, h2, h3, h4, h5, h6, h7, h8, h9⟩ := h
  cases args with
  | nil => cases h2
  | cons e es =>
    obtain ⟨t, ht, q⟩ := List.any_eq_true.mp h9
    simp only [Bool.and_eq_true, decide_eq_true_eq] at q
    obtain ⟨rfl, rfl⟩ := q
    obtain ⟨a1, a2, a3, a4, a5⟩ := bmt_ok (σ0 := []) (cx := cx) S t ht
    have hA := l_A R S hB h7
    rcases h8 with h8 | h8
    · cases nw_f h8
      exact s_bm (nw := false) S a1 a2 a3 (fun σ0 => (bmt_ok (σ0 := σ0) (cx := cx) S t ht).2.2.2.1) a5 h1 h3 h4 h5 (R.e0 S hB h6) hA
    · have hid : t.id = "str.split" := by
        simp only [bmtT, List.mem_cons, List.not_mem_nil, or_false] at ht
        rcases ht with rfl | rfl | rfl | rfl | rfl | rfl | rfl | rfl <;> first | rfl | cases h8
      refine s_bm S a1 a2 a3 (fun σ0 => ?_) a5 h1 h3 h4 h5 (R.e0 S hB h6) hA
      rw [h8, hid]
      exact o_split
theorem l_lam (R : CkOk Γ B k cx r) (V : Ev Γ B k cx G) (S : Sx Γ C k X W) (hB : baOf X = B) {z : Str} {args : List Expr} {g : Nat} {y : E} {p : Pos} (h : ckLam G r C z args g y = true) : PE X (.Call (.Name z p) args [] pos) (rdE Γ W (ev cx (.lam g y))) := by
  unfold ckLam at h
  split at h
  · simp only [Bool.and_eq_true, decide_eq_true_eq] at h
    obtain ⟨h1, h2, h34, h5, h6⟩ := h
    obtain ⟨q, hq⟩ := Option.isSome_iff_exists.mp h2
    obtain ⟨t, ht⟩ := Option.isSome_iff_exists.mp h5
    have F := V.ct g t ht
    subst hB
    split at h34
    · rename_i la hla
      exact s_lamD S h1 hq h34 hla F fun E A outer s H f c' S' => R.e0 S' rfl h6
    · rw [Bool.and_eq_true] at h34
      exact s_lam S h1 hq h34.1 h34.2 F fun E A outer s H f c' S' => R.e0 S' rfl h6
  · cases h
theorem args_ok (R : CkOk Γ B k cx r) (S : Sx Γ C k X W) (hB : baOf X = B) {args : List Expr} {kws : List Keyword} {es : List E} (h : ckArgs r C args kws es = true) : args.all notSt = true ∧ kws.map (·.arg) = (kwN kws).map some ∧ (es.take args.length).length = args.length ∧ (es.drop args.length).length = (kwN kws).length ∧ (es.take args.length).all (fun x => !x.isSt) = true ∧ (es.drop args.length).all (fun x => !x.isSt) = true ∧
    PA X args (rdA Γ W (evs cx (es.take args.length))) ∧ PK X kws (rdA Γ W (evs cx (es.drop args.length))) := by
  unfold ckArgs at h
  simp only [Bool.and_eq_true, decide_eq_true_eq] at h
  obtain ⟨h1, h2, h3, h4, h6, h7⟩ := h
  have hl1 : (es.take args.length).length = args.length := by rw [List.length_take]; omega
  have hl2 : (es.drop args.length).length = (kwN kws).length := by
    rw [List.length_drop]
    have := congrArg List.length h3
    rw [List.length_map, List.length_map] at this
    omega
  have n1 : (es.take args.length).all (fun x => !x.isSt) = true := List.all_eq_true.mpr fun x hx => List.all_eq_true.mp h2 x (List.mem_of_mem_take hx)
  have n2 : (es.drop args.length).all (fun x => !x.isSt) = true := List.all_eq_true.mpr fun x hx => List.all_eq_true.mp h2 x (List.mem_of_mem_drop hx)
  exact ⟨h1, h3, hl1, hl2, n1, n2, l_A R S hB h6, l_K R S hB h7⟩
theorem l_mk (R : CkOk Γ B k cx r) (V : Ev Γ B k cx G) (S : Sx Γ C k X W) (hB : baOf X = B) {z : Str} {args : List Expr} {kws : List Keyword} {c : Nat} {es : List E} {pm : List Nat} {p : Pos} (h : ckMk G r C z args kws c es pm = true) :
    PE X (.Call (.Name z p) args kws pos) (rdE Γ W (ev cx (.mk c es pm))) := by
  unfold ckMk at h
  rw [Bool.and_eq_true, Bool.and_eq_true, decide_eq_true_eq] at h
  obtain ⟨hg, ha, h⟩ := h
  obtain ⟨h1, h3, hl1, hl2, n1, n2, pa, pk⟩ := args_ok R S hB ha
  split at h
  · rename_i i hi
    rw [Bool.and_eq_true, decide_eq_true_eq] at h
    obtain ⟨hk, h⟩ := h
    split at h
    · rename_i f hf
      split at h
      · rename_i ps hps
        have M := V.mkc c i f ps hi hk hf hps
        rw [← hB] at M
        have := s_mk (pos := pos) (p := p) S M (by rw [hl1]; exact h) hg h1 h3 hl2 n1 n2 (fun e => by rw [e]; rfl) pa pk
        rw [List.take_append_drop] at this
        exact this
      · cases h
    · cases h
  · cases h
theorem l_mth (R : CkOk Γ B k cx r) (V : Ev Γ B k cx G) (S : Sx Γ C k X W) (hB : baOf X = B) {a : Expr} {name : Str} {apos : Pos} {args : List Expr} {kws : List Keyword} {m : Nat} {y : E} {es : List E} {pm : List Nat} (h : ckMth G r C a name apos pos args kws m y es pm = true) :
    PE X (.Call (.Attribute a name apos) args kws pos) (rdE Γ W (ev cx (.mth m y es pm))) := by
  unfold ckMth at h
  simp only [Bool.and_eq_true, decide_eq_true_eq] at h
  obtain ⟨g1, g2, g3, g4, g5, ha, hm⟩ := h
  obtain ⟨h1, h3, hl1, hl2, n1, n2, pa, pk⟩ := args_ok R S hB ha
  have MT : ∀ c i f, cx.T.cl c = some i → i.meths.lookup m = some f → MtK Γ c m f ∧ ∃ ps j, j ≤ k ∧ FOk Γ X.prog X.w X.mg X.base j (cx.cf f) f ps ∧ pmOk ((es.take args.length).length + 1) (kwN kws) ps pm = true := by
    intro c i f hc hl
    obtain ⟨M, hq⟩ := V.mth c i m f hc hl
    have := List.all_eq_true.mp hm _ hq
    simp only [Bool.or_eq_true, decide_eq_true_eq] at this
    rcases this with z | z
    · exact absurd rfl z
    · split at z
      · rename_i ps hps
        obtain ⟨j, hj, F⟩ := V.fn _ _ hps
        rw [← hB] at F
        exact ⟨M, ps, j, hj, F, by rw [hl1]; exact z⟩
      · cases z
  have := s_mth (name := name) (pos := pos) (apos := apos) S MT (by rw [← S.nmk]; exact g1) g2 g3 g4 (R.st g5).1 (R.e0 S hB g5) h1 h3 hl2 n1 n2 (fun e => by rw [e]; rfl) pa pk
  rw [List.take_append_drop] at this
  exact this
theorem l_sm (R : CkOk Γ B k cx r) (V : Ev Γ B k cx G) (S : Sx Γ C k X W) (hB : baOf X = B) {a : Expr} {name : Str} {apos : Pos} {args : List Expr} {kws : List Keyword} {f : Nat} {es : List E} {pm : List Nat} (h : ckSm G r C a name apos pos args kws f es pm = true) :
    PE X (.Call (.Attribute a name apos) args kws pos) (rdE Γ W (ev cx (.call f es pm))) := by
  unfold ckSm at h
  split at h
  · rename_i z p
    split at h
    · rename_i c hc
      simp only [Bool.and_eq_true, decide_eq_true_eq] at h
      obtain ⟨g1, g2, g3, ha, h⟩ := h
      obtain ⟨h1, h3, hl1, hl2, n1, n2, pa, pk⟩ := args_ok R S hB ha
      split at h
      · rename_i ps hps
        obtain ⟨j, hj, F⟩ := V.fn _ _ hps
        rw [← hB] at F
        have := s_sm (pos := pos) (apos := apos) (np := p) S (V.sm _ g1) hj F (by rw [hl1]; exact h) hc g2 g3 h1 h3 hl2 n1 n2 (fun e => by rw [e]; rfl) pa pk
        rw [List.take_append_drop] at this
        exact this
      · cases h
    · cases h
  · cases h
theorem l_strO (R : CkOk Γ B k cx r) (V : Ev Γ B k cx G) (S : Sx Γ C k X W) (hB : baOf X = B) {z : Str} {args : List Expr} {y : E} {p : Pos} (h : ckStrO r C z args y = true) : PE X (.Call (.Name z p) args [] pos) (rdE Γ W (ev cx (.op .tosO [y]))) := by
  unfold ckStrO at h
  rw [Bool.and_eq_true, Bool.and_eq_true, decide_eq_true_eq, decide_eq_true_eq] at h
  obtain ⟨rfl, hg, h⟩ := h
  split at h
  · simp only [Bool.and_eq_true, Bool.not_eq_true'] at h
    obtain ⟨h1, h2, h3⟩ := h
    exact s_strO S (fun c f hm => by have := V.strk c f hm; rw [← hB] at this; exact this) hg h1 h2 (l_A R S hB h3)
  · cases h
theorem l_lrng (R : CkOk Γ B k cx r) (S : Sx Γ C k X W) (hB : baOf X = B) {z : Str} {args : List Expr} {y : E} {p : Pos} (h : ckLrng r C "list" z args y = true) : PE X (.Call (.Name z p) args [] pos) (rdE Γ W fun ρ μ => nwR nw (ev cx (.op .lrng [y]) ρ μ)) := by
  unfold ckLrng at h
  rw [Bool.and_eq_true, Bool.and_eq_true, Bool.and_eq_true, decide_eq_true_eq, decide_eq_true_eq, decide_eq_true_eq] at h
  obtain ⟨rfl, hg, hg2, h⟩ := h
  split at h
  · simp only [Bool.and_eq_true, decide_eq_true_eq] at h
    obtain ⟨rfl, h1⟩ := h
    exact s_lrng S hg hg2 (R.st h1).2 (R.st h1).1 (R.e0 S hB h1)
  · cases h
theorem l_trng (R : CkOk Γ B k cx r) (S : Sx Γ C k X W) (hB : baOf X = B) {z : Str} {args : List Expr} {y : E} {p : Pos} (h : ckLrng r C "tuple" z args y = true) : PE X (.Call (.Name z p) args [] pos) (rdE Γ W (ev cx (.op .trng [y]))) := by
  unfold ckLrng at h
  rw [Bool.and_eq_true, Bool.and_eq_true, Bool.and_eq_true, decide_eq_true_eq, decide_eq_true_eq, decide_eq_true_eq] at h
  obtain ⟨rfl, hg, hg2, h⟩ := h
  split at h
  · simp only [Bool.and_eq_true, decide_eq_true_eq] at h
    obtain ⟨rfl, h1⟩ := h
    exact s_trng S hg hg2 (R.st h1).2 (R.st h1).1 (R.e0 S hB h1)
  · cases h
theorem l_lenset (R : CkOk Γ B k cx r) (S : Sx Γ C k X W) (hB : baOf X = B) {z : Str} {args : List Expr} {y : E} {p : Pos} (h : ckLenset r C z args y = true) : PE X (.Call (.Name z p) args [] pos) (rdE Γ W (ev cx (.op .lenset [y]))) := by
  unfold ckLenset at h
  rw [Bool.and_eq_true, Bool.and_eq_true, Bool.and_eq_true, Bool.and_eq_true, decide_eq_true_eq, decide_eq_true_eq, decide_eq_true_eq] at h
  obtain ⟨rfl, hg, hg2, hy, h⟩ := h
  split at h
  · simp only [Bool.and_eq_true, decide_eq_true_eq] at h
    obtain ⟨rfl, h1, h2⟩ := h
    exact s_lenset S hg hg2 h1 (by simpa using hy) (R.e0 S hB h2)
  · cases h
theorem l_kget (R : CkOk Γ B k cx r) (S : Sx Γ C k X W) (hB : baOf X = B) {a : Expr} {m : Str} {apos : Pos} {args : List Expr} {t : List (Str × D)} {y z : E} (h : ckKget r C a m apos pos args t y z = true) : PE X (.Call (.Attribute a m apos) args [] pos) (rdE Γ W (ev cx (.op (.kget t) [y, z]))) := by
  unfold ckKget at h
  split at h
  · simp only [Bool.and_eq_true, decide_eq_true_eq] at h
    obtain ⟨rfl, h1, h2, h3, h4⟩ := h
    exact s_kget S h1 h2 h3 (l_A R S hB h4)
  · cases h
theorem l_call (R : CkOk Γ B k cx r) (V : Ev Γ B k cx G) (S : Sx Γ C k X W) (hB : baOf X = B) {f : Expr} {args : List Expr} {kws : List Keyword} (h : ckCall G r C nw f args kws pos x = true) : x.isSt = false ∧ PE X (.Call f args kws pos) (rdE Γ W fun ρ μ => nwR nw (ev cx x ρ μ)) := by
  unfold ckCall at h
  split at h
  · rw [Bool.and_eq_true] at h
    cases nw_f h.1
    exact ⟨rfl, l_callF R V S hB h.2⟩
  · rw [Bool.and_eq_true, Bool.and_eq_true] at h
    cases nw_f h.1
    cases kws with
    | cons => cases h.2.1
    | nil => exact ⟨rfl, l_isi R V S hB h.2.2⟩
  · rw [Bool.and_eq_true] at h
    cases nw_f h.1
    exact ⟨rfl, l_mk R V S hB h.2⟩
  · rw [Bool.and_eq_true] at h
    cases nw_f h.1
    exact ⟨rfl, l_mth R V S hB h.2⟩
  · rw [Bool.and_eq_true] at h
    cases nw_f h.1
    exact ⟨rfl, l_sm R V S hB h.2⟩
  · rw [Bool.and_eq_true, Bool.and_eq_true] at h
    cases nw_f h.1
    cases kws with
    | cons => cases h.2.1
    | nil => exact ⟨rfl, l_strO R V S hB h.2.2⟩
  · rw [Bool.and_eq_true, Bool.and_eq_true] at h
    cases nw_f h.1
    cases kws with
    | cons => cases h.2.1
    | nil => exact ⟨rfl, l_lenset R S hB h.2.2⟩
  · rw [Bool.and_eq_true] at h
    cases kws with
    | cons => cases h.1
    | nil => exact ⟨rfl, l_lrng R S hB h.2⟩
  · rw [Bool.and_eq_true, Bool.and_eq_true] at h
    cases nw_f h.1
    cases kws with
    | cons => cases h.2.1
    | nil => exact ⟨rfl, l_trng R S hB h.2.2⟩
  · rw [Bool.and_eq_true, Bool.and_eq_true] at h
    cases nw_f h.1
    cases kws with
    | cons => cases h.2.1
    | nil => exact ⟨rfl, l_lam R V S hB h.2.2⟩
  · rw [Bool.and_eq_true, Bool.and_eq_true] at h
    cases nw_f h.1
    cases kws with
    | cons => cases h.2.1
    | nil => exact ⟨rfl, l_kget R S hB h.2.2⟩
  · rw [Bool.and_eq_true] at h
    cases kws with
    | cons => cases h.1
    | nil => exact ⟨rfl, l_blt R S hB h.2⟩
  · rw [Bool.and_eq_true] at h
    cases kws with
    | cons => cases h.1
    | nil => exact ⟨rfl, l_bm R S hB h.2⟩
  · cases h
end
end KP
end

section
set_option maxRecDepth 100000
set_option maxHeartbeats 4000000
/-! KP20: the check, put together. -/
namespace KP
open PySem PySem.Spec PyProof.Rows L2
section
variable {Γ : Glob} {X : Cx} {W : WX} {cx : Cxt} {C : Cv} {k : Nat} {B : Ba} {D0 : Gd} {r : Ck} {nw : Bool} {x : E} {pos : Pos}
theorem l_I (R : CkOk Γ B k cx r) (S : Sx Γ C k X W) (hB : baOf X = B) {tg iter : Expr} {kk : ItK} {es : List E} (h : ckI r C tg iter kk es = true) : PI X tg iter (tWalk Γ W cx kk es) := by
  unfold ckI at h
  split at h
  · exact si_seq S.hK (R.st h).1 (R.e0 S hB h)
  · split at h
    · simp only [Bool.and_eq_true, decide_eq_true_eq] at h
      obtain ⟨rfl, h1, h2, h3⟩ := h
      obtain ⟨g1, g2, _, _⟩ := S.glo h1
      exact si_rng1 g1 g2 h2 (l_A R S hB h3)
    · cases h
  · split at h
    · simp only [Bool.and_eq_true, decide_eq_true_eq] at h
      obtain ⟨rfl, h1, h2, h3, h4⟩ := h
      obtain ⟨g1, g2, _, _⟩ := S.glo h1
      exact si_rng2 g1 g2 h2 h3 (l_A R S hB h4)
    · cases h
  · rw [Bool.and_eq_true] at h
    obtain ⟨ht, h⟩ := h
    cases tg <;> first | (cases ht; done) | skip
    split at h
    · simp only [Bool.and_eq_true, decide_eq_true_eq] at h
      obtain ⟨rfl, h1, h2, h3, h4⟩ := h
      obtain ⟨g1, g2, _, _⟩ := S.glo h1
      exact si_zip S.hK g1 g2 h2 h3 (l_A R S hB h4)
    · cases h
  · rw [Bool.and_eq_true] at h
    obtain ⟨ht, h⟩ := h
    cases tg <;> first | (cases ht; done) | skip
    split at h
    · simp only [Bool.and_eq_true, decide_eq_true_eq] at h
      obtain ⟨rfl, h1, h2, h3⟩ := h
      obtain ⟨g1, g2, _, _⟩ := S.glo h1
      exact si_enum S.hK g1 g2 h2 (l_A R S hB h3)
    · cases h
  · cases h
theorem l_G (S : Sx Γ C k X W) {tg : Expr} {g : G} (h : ckG C tg g = true) : PG X tg (rdG Γ g) := by
  unfold ckG at h
  split at h
  · exact sg_nm S h
  · simp only [Bool.and_eq_true, decide_eq_true_eq, List.all_eq_true] at h
    obtain ⟨h1, h2, h3⟩ := h
    refine sg_tp S.hK S (fun p hp => ?_) h1 (List.all_eq_true.mpr h2)
    have := h3 p hp
    unfold nmSto at this
    split at this
    · rename_i e
      exact ⟨_, _, e, this⟩
    · cases this
  · cases h
theorem l_Cs (R : CkOk Γ B k cx r) (S : Sx Γ C k X W) (hB : baOf X = B) {ifs : List Expr} {cs : List E} (h : ckCs r C ifs cs = true) : PTs X ifs (rdC Γ W cx cs) := by
  unfold ckCs at h
  split at h
  · exact sc_nil
  · exact sc_one (R.t S hB h)
  · cases h
theorem notSet_ok {iter : Expr} {env : Env} (h : notSet iter = true) (v : Value) : foldedSetIterable iter env v = pure v := by
  cases iter <;> first | rfl | cases h
theorem own_snd (C : Cv) (ow : List Nat) : (ownOf C ow).map (·.2) = ow := by
  unfold ownOf
  rw [List.map_map]
  exact List.map_id _
theorem blkP (R : CkOk Γ B k cx r) (S : Sx Γ C k X W) (hB : baOf X = B) {tg elt : Expr} {ifs : List Expr} {scope : Scope} {g : G} {cs : List E} {y : E} (h1 : ckG (C.blk scope) tg g = true) (h2 : ckCs r (C.blk scope) ifs cs = true) (h3 : r.e (C.blk scope) false elt y = true) : BlkP Γ X cx scope tg g ifs cs elt y where
  hg := fun s H Cc cl fp => l_G (S.blk scope s H Cc cl fp) h1
  ht := fun s H Cc cl fp => l_Cs R (S.blk scope s H Cc cl fp) hB h2
  he := fun s H Cc cl fp => R.e0 (S.blk scope s H Cc cl fp) hB h3
theorem blkR (R : CkOk Γ B k cx r) (S : Sx Γ C k X W) (hB : baOf X = B) {tg elt : Expr} {ifs : List Expr} {scope : Scope} {g : G} {cs : List E} {y : E} (h1 : ckG (C.blk scope) tg g = true) (h2 : ckCs r (C.blk scope) ifs cs = true) (h3 : r.e (C.blk scope) false elt y = true) : BlkR Γ X W cx scope tg g ifs cs elt y where
  hg := fun s H Cc cl fp => l_G (S.blk scope s H Cc cl fp) h1
  ht := fun s H Cc cl fp => l_Cs R (S.blk scope s H Cc cl fp) hB h2
  he := fun σ s H Cc cl fp xe pa => R.e0 (S.blkE scope s H Cc cl fp xe (σ := σ) pa) hB h3
theorem l_comp (R : CkOk Γ B k cx r) (S : Sx Γ C k X W) (hB : baOf X = B) {elt : Expr} {gens : List Comprehension} {scope : Scope} (h : ckComp r C elt gens scope x = true) : x.isSt = false ∧ PE X (.ListComp elt gens scope pos) (rdE Γ W fun ρ μ => nwR nw (ev cx x ρ μ)) ∧
    ∀ {i : Nat} {z : Str} {p spos : Pos}, X.N[i]? = some z → X.env.scope.names.lookup z = some .local → swapsWith (.ListComp elt gens scope pos) (some (.Name z p)) spos.line X.env = pure true →
      PS X (.Assign [.Name z p] (.ListComp elt gens scope pos) spos) (rdS Γ W fun ρ μ => (nwR nw (ev cx x ρ μ)).bind fun d μ => .ok (.nx (ρ.set i (some d))) μ) := by
  unfold ckComp at h
  split at h
  · rename_i tg iter ifs ia ow y g kk es cs
    simp only [Bool.and_eq_true, decide_eq_true_eq, List.all_eq_true] at h
    obtain ⟨rfl, h1, h2, h3, h4, h5, h6, h7⟩ := h
    have ok : BlkOk X.N X.env.scope scope (ownOf C ow) := by
      rw [S.hN, S.sc]
      exact blkOk_by h2
    have hgi : ∀ i ∈ gIdx g, i ∈ (ownOf C ow).map (·.2) := by rw [own_snd]; exact h3
    have e := own_snd C ow
    have c1 := s_cmp1 (nw := nw) (pos := pos) S ok hgi (l_I R S hB h4) (blkP R S hB h5 h6 h7) (notSet_ok h1)
    rw [e] at c1
    refine ⟨rfl, c1, fun {i z p spos} hz hzl hsw => ?_⟩
    have c2 := ss_cmp (nw := nw) (pos := pos) S ok hgi (l_I R S hB h4) (blkP R S hB h5 h6 h7) (notSet_ok h1) hz hzl hsw
    rw [e] at c2
    exact c2
  · rename_i tg iter ifs ia ow y g kk es cs
    simp only [Bool.and_eq_true, Bool.not_eq_true', decide_eq_true_eq, List.all_eq_true] at h
    obtain ⟨hbl, rfl, h1, h2, h3, h4, h5, h6, h7⟩ := h
    have ok : BlkOk X.N X.env.scope scope (ownOf C ow) := by
      rw [S.hN, S.sc]
      exact blkOk_by h2
    have hgi : ∀ i ∈ gIdx g, i ∈ (ownOf C ow).map (·.2) := by rw [own_snd]; exact h3
    have e := own_snd C ow
    have c1 := s_cmpR (nw := nw) (pos := pos) S hbl ok hgi (l_I R S hB h4) (blkR R S hB h5 h6 h7) (notSet_ok h1)
    rw [e] at c1
    refine ⟨rfl, c1, fun {i z p spos} hz hzl hsw => ?_⟩
    have c2 := ss_cmpR (nw := nw) (pos := pos) S hbl ok hgi (l_I R S hB h4) (blkR R S hB h5 h6 h7) (notSet_ok h1) hz hzl hsw
    rw [e] at c2
    exact c2
  · rename_i tg iter ifs ia tg1 iter1 ifs1 ia1 ow ow1 y g kk es cs g1 k1 es1 cs1
    simp only [Bool.and_eq_true, decide_eq_true_eq, List.all_eq_true] at h
    obtain ⟨⟨rfl, rfl⟩, h1, h1', h2, hv, h3, h3', h4, h5, h6, h4', h5', h6', h7⟩ := h
    have ok : BlkOk X.N X.env.scope scope (ownOf C ow) := by
      rw [S.hN, S.sc]
      exact blkOk_by h2
    have hgi : ∀ i ∈ gIdx g, i ∈ (ownOf C ow).map (·.2) := by rw [own_snd]; exact h3
    have hv' : ∀ i ∈ ow1, i ∈ (ownOf C ow).map (·.2) := by rw [own_snd]; exact hv
    have e := own_snd C ow
    have BB : BlkP2 Γ X cx scope tg g ifs cs tg1 iter1 k1 es1 g1 ifs1 cs1 elt y := {
      hg := fun s H Cc cl fp => l_G (S.blk scope s H Cc cl fp) h5
      ht := fun s H Cc cl fp => l_Cs R (S.blk scope s H Cc cl fp) hB h6
      hi1 := fun s H Cc cl fp => l_I R (S.blk scope s H Cc cl fp) hB h4'
      hg1 := fun s H Cc cl fp => l_G (S.blk scope s H Cc cl fp) h5'
      ht1 := fun s H Cc cl fp => l_Cs R (S.blk scope s H Cc cl fp) hB h6'
      he := fun s H Cc cl fp => R.e0 (S.blk scope s H Cc cl fp) hB h7 }
    have c1 := s_cmp2 (nw := nw) (pos := pos) S ok hv' hgi h3' (l_I R S hB h4) BB (notSet_ok h1) (fun _ => notSet_ok h1')
    rw [e] at c1
    refine ⟨rfl, c1, fun {i z p spos} hz hzl hsw => ?_⟩
    have c2 := ss_cmp2 (nw := nw) (pos := pos) S ok hv' hgi h3' (l_I R S hB h4) BB (notSet_ok h1) (fun _ => notSet_ok h1') hz hzl hsw
    rw [e] at c2
    exact c2
  · cases h
theorem l_fld (R : CkOk Γ B k cx r) (V : Ev Γ B k cx D0) (S : Sx Γ C k X W) (hB : baOf X = B) {a : Expr} {f : Str} (h : ckFld r C a f x = true) : x.isSt = false ∧ PE X (.Attribute a f pos) (rdE Γ W (ev cx x)) := by
  unfold ckFld at h
  split at h
  · simp only [Bool.and_eq_true, decide_eq_true_eq] at h
    obtain ⟨h1, h2, h3⟩ := h
    exact ⟨rfl, s_fld S V.cl (by rw [← S.nmk]; exact h1) h2 (R.st h3).1 (R.e0 S hB h3)⟩
  · cases h
theorem l_dct (R : CkOk Γ B k cx r) (S : Sx Γ C k X W) (hB : baOf X = B) {keys : List (Option Expr)} {vs : List Expr} (h : ckDct r C keys vs x = true) : x.isSt = false ∧ PE X (.Dict keys vs pos) (rdE Γ W fun ρ μ => nwR nw (ev cx x ρ μ)) := by
  unfold ckDct at h
  split at h
  · rw [Bool.or_eq_true] at h
    rcases h with h | h
    · simp only [Bool.and_eq_true, List.isEmpty_iff] at h
      obtain ⟨rfl, rfl, rfl, rfl⟩ := h
      exact ⟨rfl, s_dct0⟩
    simp only [Bool.and_eq_true, decide_eq_true_eq] at h
    obtain ⟨h1, h2, h3, h4⟩ := h
    exact ⟨rfl, s_dct (f := r.e C false) (fun v x hv => R.e0 S hB hv) h4 (fun e => by rw [e] at h1; cases h1) h2 h3⟩
  · cases h
theorem l_E0 (R : CkOk Γ B k cx r) (V : Ev Γ B k cx D0) (S : Sx Γ C k X W) (hB : baOf X = B) {e : Expr} (h : ckE0 D0 r C nw e x = true) : x.isSt = false ∧ notSt e = true ∧ PE X e (rdE Γ W fun ρ μ => nwR nw (ev cx x ρ μ)) := by
  have p0 : Pos := ⟨0, 0, 0, 0⟩
  unfold ckE0 at h
  split at h
  · exact ⟨(l_name (cx := cx) S h (pos := p0)).1, rfl, (l_name S h).2⟩
  · exact ⟨(l_con (Γ := Γ) (X := X) (W := W) (cx := cx) (j := 0) (pos := p0) h).1, rfl, (l_con h).2⟩
  · exact ⟨(l_un (pos := p0) R V S hB h).1, rfl, (l_un R V S hB h).2⟩
  · exact ⟨(l_bin (pos := p0) R S hB h).1, rfl, (l_bin R S hB h).2⟩
  · exact ⟨(l_ife (pos := p0) R S hB h).1, rfl, (l_ife R S hB h).2⟩
  · exact ⟨(l_tup (pos := p0) (kk := 0) R S hB h).1, rfl, (l_tup R S hB h).2⟩
  · exact ⟨(l_lst (nw := nw) (pos := p0) R S hB h).1, rfl, (l_lst R S hB h).2⟩
  · rw [Bool.and_eq_true] at h
    cases nw_f h.1
    exact ⟨(l_B (pos := p0) R V S hB h.2).1, rfl, (l_B R V S hB h.2).2⟩
  · exact ⟨(l_sub (pos := p0) R S hB h).1, rfl, (l_sub R S hB h).2⟩
  · rw [Bool.and_eq_true] at h
    cases nw_f h.1
    exact ⟨(l_cmp (pos := p0) R V S hB h.2).1, rfl, (l_cmp R V S hB h.2).2.1⟩
  · exact ⟨(l_call R V S hB h).1, rfl, (l_call R V S hB h).2⟩
  · rw [Bool.and_eq_true] at h
    cases nw_f h.1
    exact ⟨(l_fld (pos := p0) R V S hB h.2).1, rfl, (l_fld R V S hB h.2).2⟩
  · exact ⟨(l_dct (nw := nw) (pos := p0) R S hB h).1, rfl, (l_dct R S hB h).2⟩
  · exact ⟨(l_comp (nw := nw) (pos := p0) R S hB h).1, rfl, (l_comp R S hB h).2.1⟩
  · cases h
theorem l_E (R : CkOk Γ B k cx r) (V : Ev Γ B k cx D0) (S : Sx Γ C k X W) (hB : baOf X = B) {e : Expr} (h : ckE D0 r C nw e x = true) : x.isSt = false ∧ notSt e = true ∧ PE X e (rdE Γ W fun ρ μ => nwR nw (ev cx x ρ μ)) := by
  unfold ckE at h
  split at h
  · rw [Bool.and_eq_true] at h
    cases nw_f h.1
    exact ⟨rfl, (l_E0 R V S hB h.2).2.1, (l_E0 R V S hB h.2).2.2⟩
  · rw [Bool.and_eq_true] at h
    cases nw_f h.1
    exact ⟨rfl, (l_E0 R V S hB h.2).2.1, s_frz (l_E0 (nw := false) R V S hB h.2).2.2⟩
  · exact l_E0 R V S hB h
theorem l_T (R : CkOk Γ B k cx r) (V : Ev Γ B k cx D0) (S : Sx Γ C k X W) (hB : baOf X = B) {a : Expr} (h : ckT r C a x = true) : PT X a (rdT Γ W cx x) := by
  unfold ckT at h
  split at h
  · split at h
    · exact st_not (R.t S hB h)
    · cases h
  · exact (l_BT R S hB h).pt
  · exact (l_cmp R V S hB h).2.2
  · cases h
  · simp only [Bool.and_eq_true] at h
    exact st_val S V hB h.2.1 h.1 (R.e0 S hB h.2.2)
theorem l_Ss (R : CkOk Γ B k cx r) (S : Sx Γ C k X W) (hB : baOf X = B) : ∀ {sts : List Stmt} {ss : List KP.S}, ckSs r C sts ss = true → PSs X sts (rdS Γ W (exs cx ss))
  | [], [], _ => ss_nil
  | [], _ :: _, h => by cases h
  | _ :: _, [], h => by cases h
  | st :: sts, s :: ss, h => by
    rw [ckSs, Bool.and_eq_true] at h
    exact ss_cons (R.s S hB h.1) (l_Ss R S hB h.2)
/-! stores -/
theorem notComp_sw {e : Expr} {tg : Option Expr} {l : Nat} {env : Env} (h : notComp e = true) : swapsWith e tg l env = pure false := by
  cases e <;> first | rfl | cases h
theorem notComp_sws {e tg : Expr} {l : Nat} {env : Env} (h : notComp e = true) : swapsWithSole [tg] e l env = pure false := by
  cases e <;> first | rfl | cases h
theorem swOf_f (S : Sx Γ C k X W) {e : Expr} {z : Str} {p : Pos} {l : Nat} (h : swOf C.sc e z p = some false) : swapsWith e (some (.Name z p)) l X.env = pure false := by
  cases e <;> first | rfl | (cases h; done) | skip
  unfold swOf at h
  dsimp only at h
  split at h
  · split at h <;> cases h
  · rename_i hl
    have hk : (X.env.kindOf z == some .local) = false := by
      show (X.env.scope.names.lookup z == some .local) = false
      rw [S.sc]
      simpa using hl
    unfold swapsWith
    simp only [hk, Bool.and_false, Bool.false_and]
theorem swOf_t (S : Sx Γ C k X W) (hf : C.sc.kind = .function) {elt : Expr} {gens : List Comprehension} {scope : Scope} {z : Str} {p : Pos} {l : Nat} (h : swOf C.sc (.ListComp elt gens scope pos) z p = some true) : swapsWith (.ListComp elt gens scope pos) (some (.Name z p)) l X.env = pure true ∧ X.env.scope.names.lookup z = some .local := by
  unfold swOf at h
  dsimp only at h
  split at h
  · rename_i hl
    split at h
    · rename_i hc
      have hl' : X.env.scope.names.lookup z = some .local := by rw [S.sc]; exact hl
      exact ⟨sw_true (by rw [S.sc]; exact hf) hl' hc.1 hc.2, hl'⟩
    · cases h
  · cases h
theorem l_asg (R : CkOk Γ B k cx r) (S : Sx Γ C k X W) (hB : baOf X = B) {e : Expr} {i : Nat} {z : Str} {p : Pos} (h : ckAsg r C nw e x i z p = true) : PS X (.Assign [.Name z p] e pos) (rdS Γ W fun ρ μ => (nwR nw (ev cx x ρ μ)).bind fun d μ => .ok (.nx (ρ.set i (some d))) μ) := by
  unfold ckAsg at h
  simp only [Bool.and_eq_true, decide_eq_true_eq] at h
  obtain ⟨h1, h2, h3, h4⟩ := h
  split at h4
  · rename_i hs
    cases nw with
    | false => exact ss_set S h2 (R.e0 S hB h3) (swOf_f S hs)
    | true => exact ss_new S h2 (R.e S hB h3) (swOf_f S hs)
  · rename_i hs
    split at h4
    · rename_i elt gens scope cpos
      obtain ⟨q1, q2⟩ := swOf_t (pos := cpos) (l := pos.line) S h1 hs
      exact (l_comp R S hB h4).2.2 (S.sto h2).1 q2 q1
    · cases h4
  · cases h4
theorem sws2 (S : Sx Γ C k X W) (hf : C.sc.kind = .function) {z1 z2 : Str} {p1 p2 pt pt2 : Pos} {kt k2 : Nat} {a b : Expr} (l1 : C.sc.names.lookup z1 = some .local) (l2 : C.sc.names.lookup z2 = some .local) (hz : z1 ≠ z2) (hp : p2.line = p1.line) (ha : notSt a = true) (hb : notSt b = true)
    (h1 : [a, b].all (foldedForSure 8) = false) (h2 : [a, b].all (constantsAlone 8) = false) : swappedStores [.Tuple [.Name z1 p1, .Name z2 p2] kt pt] (.Tuple [a, b] k2 pt2) X.env = pure (some [z1, z2]) := by
  have k1 : (X.env.kindOf z1 == some .local) = true := by
    show (X.env.scope.names.lookup z1 == some .local) = true
    rw [S.sc, l1]; rfl
  have k2 : (X.env.kindOf z2 == some .local) = true := by
    show (X.env.scope.names.lookup z2 == some .local) = true
    rw [S.sc, l2]; rfl
  have kb : X.env.blockKind = .function := by
    unfold Env.blockKind
    rw [S.sc, hf]; rfl
  have hd : ([z1, z2] : List Str).eraseDups.length = 2 := by
    have : (z2 == z1) = false := by simpa using fun e => hz e.symm
    simp [List.eraseDups_cons, this]
  unfold swappedStores
  simp only [kb, h1, h2, List.length_cons, List.length_nil, List.head?_cons, Option.map_some, Option.getD_some, Expr.pos, List.filterMap_cons, List.filterMap_nil, k1, k2, hp, beq_self_eq_true, Bool.and_self, if_true, hd, bne_self_eq_false]
  refine (if_neg (by decide)).trans ?_
  refine (if_neg fun hh => ?_).trans ?_
  · simp only [List.any_cons, List.any_nil, Bool.or_false, Bool.or_eq_true] at hh
    rcases hh with hh | hh
    · cases a <;> first | (cases ha; done) | (cases hh; done)
    · cases b <;> first | (cases hb; done) | (cases hh; done)
  · rfl
theorem l_par (R : CkOk Γ B k cx r) (S : Sx Γ C k X W) (hB : baOf X = B) {ts : List Expr} {kt : Nat} {pt : Pos} {e : Expr} {is : List Nat} {xs : List E} (h : ckPar r C ts e is xs = true) : PS X (.Assign [.Tuple ts kt pt] e pos) (rdS Γ W (ex cx (.par is xs))) := by
  unfold ckPar at h
  split at h
  · rename_i z1 p1 z2 p2 a b k2 pt2 i j
    simp only [Bool.and_eq_true, decide_eq_true_eq, Bool.not_eq_true'] at h
    obtain ⟨h1, h2, h3, h4, h5, h6, h7, h8, h9, h10, h11, h12, h13, h14, h15⟩ := h
    match xs, h14 with
    | [x, y], _ => exact ss_par2 S h2 h3 h4 h5 h6 (l_A R S hB h15) (sws2 S h1 h5 h6 h7 h8 h9 h10 h11 h12)
  · cases h
theorem filterMap_lt {α β : Type} (f : α → Option β) : ∀ (xs : List α), (∃ x ∈ xs, f x = none) → (xs.filterMap f).length < xs.length
  | [], h => by
    obtain ⟨x, h, _⟩ := h
    cases h
  | x :: xs, h => by
    have hle : ∀ ys : List α, (ys.filterMap f).length ≤ ys.length := fun ys => List.length_filterMap_le f ys
    rw [List.filterMap_cons]
    cases hx : f x with
    | none =>
      have := hle xs
      simp only [List.length_cons]
      omega
    | some y =>
      obtain ⟨z, hz, e⟩ := h
      rcases List.mem_cons.mp hz with q | q
      · subst q
        rw [hx] at e
        cases e
      · have := filterMap_lt f xs ⟨z, q, e⟩
        simp only [List.length_cons]
        omega
theorem notTup_sw {sc : Scope} {ts : List Expr} {kt : Nat} {pt : Pos} {e : Expr} {env : Env} (he : env.scope = sc) (h : swNone sc ts e = true) : swappedStores [.Tuple ts kt pt] e env = pure none := by
  cases e <;> first | rfl | skip
  rename_i vs k2 p2
  obtain ⟨t, ht, h2⟩ := List.any_eq_true.mp (show (ts.any _) = true from h)
  unfold swappedStores
  dsimp only
  split
  · rfl
  split
  · rfl
  rw [if_pos]
  · rw [Bool.or_eq_true]
    left
    rw [bne_iff_ne]
    refine Nat.ne_of_lt (filterMap_lt _ ts ⟨t, ht, ?_⟩)
    cases t <;> first | rfl | skip
    rename_i z p
    have h2 := of_decide_eq_true (show decide (sc.names.lookup z ≠ some .local) = true from h2)
    have : (env.kindOf z == some .local) = false := by
      show (env.scope.names.lookup z == some .local) = false
      rw [he]
      cases hl : sc.names.lookup z with
      | none => rfl
      | some q =>
        rw [hl] at h2
        cases q <;> first | rfl | exact absurd rfl h2
    dsimp only
    rw [this]
    rfl
theorem tup_sws {e : Expr} {ts : List Expr} {kt : Nat} {pt : Pos} {l : Nat} {env : Env} : swapsWithSole [.Tuple ts kt pt] e l env = pure false := by
  cases e <;> rfl
theorem l_S (R : CkOk Γ B k cx r) (V : Ev Γ B k cx D0) (hT : cx.T = D0.T) (S : Sx Γ C k X W) (hB : baOf X = B) {st : Stmt} {s : KP.S} (h : ckS D0 r C st s = true) : PS X st (rdS Γ W (ex cx s)) := by
  unfold ckS at h
  rw [Bool.and_eq_true, Bool.not_eq_true'] at h
  obtain ⟨hbl, h⟩ := h
  unfold ckS0 at h
  split at h
  · exact l_asg (nw := false) R S hB h
  · exact l_asg (nw := true) R S hB h
  · simp only [Bool.and_eq_true, Bool.not_eq_true'] at h
    obtain ⟨h1, h2, h3⟩ := h
    exact ss_unp (l_G S h1) (R.e0 S hB h2) tup_sws (notTup_sw S.sc h3) rfl
  · exact l_par R S hB h
  · simp only [Bool.and_eq_true] at h
    exact ss_sti h.1 (R.e0 S hB h.2.1) (R.e0 S hB h.2.2.1) (R.e0 S hB h.2.2.2)
  · simp only [Bool.and_eq_true, decide_eq_true_eq] at h
    obtain ⟨h1, h2, h3, h4⟩ := h
    exact ss_stf S V.cl (by rw [← S.nmk]; exact h1) (R.e0 S hB h3) (R.e0 S hB h4) (notComp_sw h2)
  · rw [Bool.and_eq_true] at h
    exact ss_aug S h.1 ip_add (fun _ _ _ => rfl) (R.e0 S hB h.2)
  · rw [Bool.and_eq_true] at h
    exact ss_aug S h.1 ip_sub (fun _ _ _ => rfl) (R.e0 S hB h.2)
  · rw [Bool.and_eq_true] at h
    exact ss_ex (R.e0 S hB h.2) (notComp_sw h.1)
  · exact ss_ret0
  · exact ss_ret (R.e0 S hB h)
  · exact ss_retn (R.e S hB h)
  · simp only [Bool.and_eq_true] at h
    exact ss_ife (R.t S hB h.1) (l_Ss R S hB h.2.1) (l_Ss R S hB h.2.2)
  · simp only [Bool.and_eq_true] at h
    exact ss_for S hbl (l_I R S hB h.2.1) (l_G S h.2.2.1) (l_Ss R S hB h.2.2.2) (notSet_ok h.1)
  · simp only [Bool.and_eq_true] at h
    exact ss_whl S hbl (R.t S hB h.1) (l_Ss R S hB h.2)
  · exact ss_pass
  · exact ss_brk
  · exact ss_cont
  · simp only [Bool.and_eq_true, decide_eq_true_eq] at h
    obtain ⟨h1, h2, h3, h4⟩ := h
    cases hc : D0.T.cl _ with
    | none => rw [hc] at h4; cases h4
    | some i =>
      rw [hc] at h4
      have hc' := hc
      rw [← hT] at hc'
      exact ss_rai S hbl V.two hc' (V.cl.err _ i hc' (of_decide_eq_true h4)) h1 (by simpa using h2) (l_A R S hB h3)
  · cases h
theorem ckE0_st (hr : ∀ {C : Cv} {nw : Bool} {e : Expr} {x : E}, r.e C nw e x = true → x.isSt = false ∧ notSt e = true) {e : Expr} (h : ckE0 D0 r C nw e x = true) : x.isSt = false ∧ notSt e = true := by
  constructor
  · cases x <;> first | rfl | skip
    exfalso
    cases e <;> first
      | (cases h; done)
      | (simp [ckE0, ckName, ckCon, ckUn, ckBin, ckIfe, ckTup, ckLst, ckSub, ckCmp, ckCall, ckComp, ckFld, ckDct] at h; done)
      | skip
    · rename_i op vs p
      simp only [ckE0, Bool.and_eq_true] at h
      obtain ⟨_, h⟩ := h
      cases vs with
      | nil => cases h
      | cons a rest =>
        cases rest with
        | nil => cases (hr (show r.e C false a _ = true from h)).1
        | cons => cases h
    all_goals
      unfold ckE0 at h
      dsimp only at h
      try simp only [Bool.and_eq_true] at h
      first
        | (unfold ckComp at h; split at h <;> first | (cases h; done) | (rename_i e1; cases e1; done) | (contradiction))
        | (have h2 := h.2; unfold ckCmp at h2; split at h2 <;> first | (cases h2; done) | contradiction)
        | (unfold ckCall at h; split at h <;> first | (cases h; done) | contradiction)
  · cases e <;> first | rfl | cases h
theorem ckE_st (hr : ∀ {C : Cv} {nw : Bool} {e : Expr} {x : E}, r.e C nw e x = true → x.isSt = false ∧ notSt e = true) {e : Expr} (h : ckE D0 r C nw e x = true) : x.isSt = false ∧ notSt e = true := by
  unfold ckE at h
  split at h
  · rw [Bool.and_eq_true] at h
    exact ⟨rfl, (ckE0_st hr h.2).2⟩
  · rw [Bool.and_eq_true] at h
    exact ⟨rfl, (ckE0_st hr h.2).2⟩
  · exact ckE0_st hr h
/-- THE CHECK holds what it says -/
theorem ck_ok (V : Ev Γ B k cx D0) (hT : cx.T = D0.T) : ∀ n, CkOk Γ B k cx (ck D0 n)
  | 0 => ⟨fun h => (by cases h), fun _ _ h => (by cases h), fun _ _ h => (by cases h), fun _ _ h => (by cases h)⟩
  | n + 1 => by
    have R := ck_ok V hT n
    exact ⟨fun h => ckE_st R.st h, fun S hB h => (l_E R V S hB h).2.2, fun S hB h => l_T R V S hB h, fun S hB h => l_S R V hT S hB h⟩
end
end KP
end

section
set_option maxRecDepth 100000
set_option maxHeartbeats 4000000
/-! KP21: a def, by its small text; all defs. -/
namespace KP
open PySem PySem.Spec PyProof.Rows L2
section
variable {Γ : Glob} {w : Wd} {μ : Mu} {H : Hp} {n : Nat}
/-- what a body hands back is what the def hands back -/
theorem leave_ok {W : WX} {w0 : Wd} {Q : VK} {keep : Bool} {v : D} {μ' : Mu} (hn : w0.θ.length ≤ n) (p : postE Γ W [] w0 Q (leave keep n v μ')) : ∀ w' u H', w0.le w' → OkW Γ w' μ' H' → Rv Γ w' u v → Q u H' := by
  intro w' u H' le ok r
  have oc := ok.cut n
  have lc := cut_le le hn
  by_cases hc : v.isCell = true
  · cases v <;> first | (cases hc; done) | skip
    rename_i m
    rcases r with ⟨m', a, em, e2, e3⟩ | ⟨ek, _⟩
    · cases em
      unfold leave at p
      dsimp only at p
      split at p
      · rename_i hlt
        exact p _ u H' lc oc (.inl ⟨m, a, rfl, by
          show (w'.θ.take n)[m]? = some a
          rw [List.getElem?_take_of_lt hlt]; exact e2, e3⟩)
      · rename_i hlt
        have hge : n ≤ m := by omega
        split at p
        · rename_i xs hx
          obtain ⟨⟨vs, q1, q2⟩, _⟩ := ok.cel m a _ e2 hx
          split at p
          · obtain ⟨o1, l1⟩ := ok.keepC e2 hx hge
            have hlen : (w'.θ.take n).length = n := by
              rw [List.length_take]
              have := (List.getElem?_eq_some_iff.mp e2).1
              omega
            exact p _ u H' (Wd.trans lc l1) o1 (.inl ⟨n, a, rfl, by
              show (w'.θ.take n ++ [a])[n]? = some a
              rw [List.getElem?_append_right (by omega), hlen, Nat.sub_self]; rfl, e3⟩)
          · split at p
            · rename_i hz
              obtain ⟨o1, l1⟩ := ok.frzc e2 hx (by simp) hge q1
              exact p _ u H' (Wd.trans lc l1) o1 (.inr ⟨rfl, by rw [e3]; exact .lst upd_same (Rps.mono l1.1 _ _ q2) hz⟩)
            · exact p.elim
        · rename_i c ns vs hx
          obtain ⟨o1, l1⟩ := ok.keepC e2 hx hge
          have hlen : (w'.θ.take n).length = n := by
            rw [List.length_take]
            have := (List.getElem?_eq_some_iff.mp e2).1
            omega
          exact p _ u H' (Wd.trans lc l1) o1 (.inl ⟨n, a, rfl, by
            show (w'.θ.take n ++ [a])[n]? = some a
            rw [List.getElem?_append_right (by omega), hlen, Nat.sub_self]; rfl, e3⟩)
        · rename_i ks vs hx
          obtain ⟨⟨kvs, q1, q2, q3⟩, _⟩ := ok.cel m a _ e2 hx
          obtain ⟨o1, l1⟩ := ok.frzc e2 hx (by simp) hge q1
          refine p _ u H' (Wd.trans lc l1) o1 (.inr ⟨rfl, ?_⟩)
          rw [e3, ← q2]
          exact .dct upd_same (Rps.mono l1.1 _ _ q3)
        · exact p.elim
    · cases ek
  · have e : leave keep n v μ' = .ok v (μ'.take n) := by cases v <;> first | rfl | exact absurd rfl hc
    rw [e] at p
    exact p _ u H' lc oc (.inr ⟨by simpa using hc, r.rp (by simpa using hc)⟩)
theorem startR_ok {N : List Str} {d : Def} {vs : List V} {ds : List D} (r : Rvs Γ w vs ds) (hl : ds.length = d.np) (hN : N.length = d.nl) (hle : d.np ≤ d.nl) : RSt Γ w (L2.start N vs) (startR d ds) := by
  have hv : vs.length = ds.length := r.len
  unfold L2.start startR
  refine ⟨by simp; omega, fun i x h => ?_⟩
  by_cases hi : i < ds.length
  · rw [List.getElem?_append_left (by simpa using hi), List.getElem?_map] at h
    obtain ⟨y, h1, h2⟩ := Option.map_eq_some_iff.mp h
    cases h2
    obtain ⟨u, q1, q2⟩ := r.get h1
    refine ⟨u, ?_, q2⟩
    rw [List.getElem?_append_left (by rw [List.length_map, hv]; exact hi), List.getElem?_map, q1]
    rfl
  · rw [List.getElem?_append_right (by simpa using hi), List.getElem?_replicate] at h
    split at h <;> cases h
end
/-! ### the table -/
/-- what one def is: where its names stand -/
structure Dx where
  N : List Str
  ps : List Str
  scope : Scope
  body : List Stmt
  d : Def
  lm : Option Str
def Dx.cv (x : Dx) (gl : List (Str × GR)) (nm : Nat → Str) : Cv := ⟨x.N, x.scope, fun _ => true, gl, nm, x.lm, false⟩
/-- the check of one def -/
def Dx.ok (x : Dx) (G : Gd) (gl : List (Str × GR)) (nm : Nat → Str) (fuel : Nat) : Bool := C8.scC x.N x.ps x.scope && (decide (x.N.length = x.d.nl) && (decide (x.ps.length = x.d.np) && (decide (x.d.np ≤ x.d.nl) && ckSs (ck G fuel) (x.cv gl nm) x.body x.d.body)))
/-- what stands in the world -/
structure Wo (Γ : Glob) (B : Ba) (gl : List (Str × GR)) : Prop where
  gl : ∀ p ∈ gl, match p.2 with
    | .fn f => B.mg p.1 = some (.ref (Γ.fad f)) ∧ PySem.W.keepIn Γ.K (.ref (Γ.fad f)) = true
    | .cls c => B.mg p.1 = some (.ref (Γ.cls c))
    | .val d => ∃ v u, B.mg p.1 = some u ∧ RelV v u ∧ ∀ Φ, Rp Γ Φ v d
    | .free => B.mg p.1 = none
    | .ctc g => B.mg p.1 = some (.ref (Γ.cad g)) ∧ PySem.W.keepIn Γ.K (.ref (Γ.cad g)) = true
    | .kdt t => ∃ a, B.mg p.1 = some (.ref a) ∧ KTab Γ B.w a t
/-- the code object of a def that makes lambdas -/
def LmD (Γ : Glob) (B : Ba) (qual : Str) (cdv : Value) (q : Str) : Prop := qual ++ ".<locals>." ++ "<lambda>" = q ∧ ∃ c P, cdv = .ref c ∧ LamX.TabB B.base B.mg c P ∧ (P, q) ∈ Γ.tb ∧ ∀ p ∈ Γ.tb, p.1 = P → p.2 = q
section
variable {Γ : Glob} {B : Ba} {gl : List (Str × GR)} {nm : Nat → Str} {G : Gd}
theorem Wo.ok (o : Wo Γ B gl) {X : Cx} (hB : baOf X = B) (hK : Γ.K = X.K) : ∀ p ∈ gl, GOk Γ X p.1 p.2 := by
  intro p hp
  have h := o.gl p hp
  subst hB
  obtain ⟨x, g⟩ := p
  cases g with
  | fn f => exact ⟨h.1, by rw [← hK]; exact h.2⟩
  | cls c => exact h
  | val d => exact h
  | free => exact h
  | ctc g => exact ⟨h.1, by rw [← hK]; exact h.2⟩
  | kdt t => exact h
/-- a body's end is the def's -/
theorem body_end {E : XK} {W : WX} {w : Wd} {d : Def} {n : Nat} {Q : VK} {r : R F} (hn : w.θ.length ≤ n) (hW : ∀ c x σ H, E c x H → W c x σ H) (p : postE Γ (fun c d _ H => E c d H) [] w Q (finish d n r)) : postS Γ W w { nx := fun _ H' => Q .non H', rt := Q } r := by
  cases r with
  | ok fl μ' =>
    cases fl with
    | nx ρ => exact fun w' σ' H' le g => leave_ok (keep := d.keep) (v := .non) hn p w' .non H' le g.ok (.val .non)
    | ret v => exact leave_ok (keep := d.keep) hn p
    | brk ρ => exact p.elim
    | cont ρ => exact p.elim
  | exc c ns vs μ' => exact fun w' σ' H' dx le ok' ex => hW _ _ _ _ (p (w'.cut n) H' dx (cut_le le hn) (ok'.cut _) ex)
  | stuck => exact p.elim
/-- one def keeps what its small text computes -/
theorem def_G {cx : Cxt} {k fuel : Nat} (V : Ev Γ B k cx G) (hT : cx.T = G.T) (o : Wo Γ B gl) (hnm : nm = Γ.nm) {x : Dx} (hx : x.ok G gl nm fuel = true) {f : Nat} (hf : cx.T.fn f = some x.d) {nm0 qual : Str} {params : Arguments} {fd : FuncData} (F : FunD Γ.K nm0 qual params x.body x.scope [] [] (Γ.fad f) fd) (hl0 : ∀ q, x.lm = some q → LmD Γ B qual fd.code q) :
    FnG B.P B.w Γ.K B.mg B.base (k + 3) (Γ.fad f) fd x.ps (spI Γ (runD cx f)) := by
  unfold Dx.ok at hx
  simp only [Bool.and_eq_true, decide_eq_true_eq] at hx
  obtain ⟨h1, h2, h3, h4, h5⟩ := hx
  have S := C8.fnScope_by h1
  obtain ⟨oc, od, dV, kV, doc, pm, an, cdv, ct, osl, rfl, lk, hcd, _, _⟩ := F.ex
  have hsp : ∀ vs H Q E, spI Γ (runD cx f) vs H Q E → ∃ w μ ds, OkW Γ w μ H ∧ Rvs Γ w vs ds ∧ ds.length = x.d.np ∧ postE Γ (fun c d _ H => E c d H) [] w Q (finish x.d μ.length (exs cx x.d.body (startR x.d ds) μ)) := by
    intro vs H Q E ⟨w, μ, ds, ok, rv, p⟩
    unfold runD at p
    rw [hf] at p
    dsimp only at p
    split at p
    · rename_i hl
      exact ⟨w, μ, ds, ok, rv, hl, p⟩
    · exact p.elim
  refine fn_G lk hcd S (fun vs H Q E h => ?_) fun A outer s H vs Q E hg hr h => ?_
  · obtain ⟨w, μ, ds, ok, rv, hl, _⟩ := hsp vs H Q E h
    rw [rv.len, hl, h3]
  · obtain ⟨w, μ, ds, ok, rv, hl, p⟩ := hsp vs H Q E h
    refine ⟨_, l_Ss (Γ := Γ) (B := B) (k := k) (cx := cx) (W := fun c d _ H => E c d H) (C := x.cv gl nm) (r := ck G fuel) (ck_ok V hT fuel) ?_ rfl h5, ?_⟩
    · refine ⟨rfl, rfl, rfl, S.nd, rfl, hr.mono (by omega), hg, fun _ => takes_of rfl rfl rfl rfl, fun _ => passes_of rfl, fun _ => rfl, fun _ => rfl, fun σ => passAt (takes_of rfl rfl rfl rfl) σ, ?_, fun _ _ => rfl, fun q hq => ?_, hnm⟩
      · exact o.ok rfl rfl
      · obtain ⟨e1, c, P, e2, e3, e4⟩ := hl0 q hq
        exact ⟨hr, e1, c, P, e2, e3, e4⟩
    · refine ⟨w, startR x.d ds, μ, [], ⟨startR_ok rv hl h2 h4, ok⟩, trivial, ?_⟩
      exact body_end (Nat.le_of_eq ok.len) (fun _ _ _ _ h => h) p
theorem fun_look {x qual : Str} {params : Arguments} {body : List Stmt} {scope : Scope} {dvs : List V} {kws : List (Str × V)} {f : Addr} {fd : FuncData} {K : PySem.W.Frag} (F : FunD K x qual params body scope dvs kws f fd) : ∃ oc od osl, K.lookup f = some ⟨oc, od, .func fd, osl⟩ :=
  let ⟨oc, od, _, _, _, _, _, _, _, osl, _, lk, _⟩ := F.ex
  ⟨oc, od, osl, lk⟩
end
end KP
end

section
set_option maxRecDepth 100000
set_option maxHeartbeats 4000000
/-! KPC: a def that gets a lambda and calls it within a try; all defs. -/
namespace KP
open PySem PySem.Spec PyProof.Rows L2
structure Kx where
  N : List Str
  a : Str
  scope : Scope
  body : List Stmt
  t : Ctc
  j : Nat
def Kx.cv (x : Kx) (gl : List (Str × GR)) (nm : Nat → Str) : Cv := ⟨x.N, x.scope, fun _ => true, gl, nm, none, false⟩
def plainN (x : Kx) (i : Nat) (z : Str) : Bool := decide (x.N[i]? = some z) && (decide (x.scope.names.lookup z = some .local) && (!(z == ("__debug__" : Str)) && !(z == ("__classdict__" : Str))))
def ckTry (G : Gd) (x : Kx) (gl : List (Str × GR)) (nm : Nat → Str) (fuel : Nat) : List Stmt → Bool
  | .Assign [.Name v _] (.Constant .none _ _) _ :: .Try [.Expr (.Call (.Name a _) [] [] _) _] [.ExceptHandler (some (.Name z _)) (some e) [.Assign [.Name v' _] (.Name e' _) _] _] [] [] _ :: rest =>
    decide (a = x.a) && (decide (v' = v) && (decide (e' = e) && (plainN x x.t.i v && (plainN x x.j e && (decide ((x.cv gl nm).glo z = some (.cls x.t.c)) && ckSs (ck G fuel) (x.cv gl nm) rest x.t.d.body)))))
  | _ => false
def Kx.ok (x : Kx) (G : Gd) (gl : List (Str × GR)) (nm : Nat → Str) (fuel : Nat) : Bool := C8.scC x.N [x.a] x.scope && (decide (x.N.length = x.t.d.nl) && (decide (x.t.i < x.t.d.nl ∧ x.j < x.t.d.nl ∧ x.t.i ≠ 0 ∧ x.t.i ≠ x.j) && (plainN x 0 x.a && ckTry G x gl nm fuel x.body)))
section
variable {Γ : Glob} {B : Ba} {gl : List (Str × GR)} {nm : Nat → Str} {G : Gd}
theorem plainN_ok {x : Kx} {i : Nat} {z : Str} (h : plainN x i z = true) : x.N[i]? = some z ∧ x.scope.names.lookup z = some .local ∧ (z == ("__debug__" : Str)) = false ∧ (z == ("__classdict__" : Str)) = false := by
  unfold plainN at h
  simpa only [Bool.and_eq_true, decide_eq_true_eq, Bool.not_eq_true'] using h
theorem subC_ok {T : Tab} (Q : ClOk Γ T) {c t : Nat} {b : Bool} (h : subC T c t = some b) : PySem.W.exmOne Γ.K (.ref (Γ.cls c)) (.ref (Γ.cls t)) = some b := by
  unfold subC at h
  split at h
  · rename_i i j hi hj
    split at h
    · rename_i hk
      cases h
      exact ((Q.exk c i hi hk.1).two t j hj (by omega)).2
    · cases h
  · cases h
theorem startC_ok {w : Wd} {t : Ctc} {σ : St} {d : D} {v : V} (hl : σ.length = t.d.nl) (hi : σ[t.i]? = some (some v)) (r : Rv Γ w v d) : RSt Γ w σ (startC t d) := by
  unfold startC
  refine ⟨by rw [List.length_set, List.length_replicate, hl], fun i x h => ?_⟩
  by_cases hn : t.i = i
  · subst hn
    have hlt := (List.getElem?_eq_some_iff.mp h).1
    rw [List.getElem?_set_self (by simpa using hlt)] at h
    cases h
    exact ⟨v, hi, r⟩
  · rw [List.getElem?_set_ne hn, List.getElem?_replicate] at h
    split at h <;> cases h
/-- such a def -/
theorem cat_G {cx : Cxt} {k fuel : Nat} (EV : Ev Γ B k cx G) (hT : cx.T = G.T) (o : Wo Γ B gl) (hnm : nm = Γ.nm) {x : Kx} (hx : x.ok G gl nm fuel = true) {g : Nat} (hg : cx.T.ct g = some x.t) {nm0 qual : Str} {params : Arguments} {fd : FuncData} (F : FunD Γ.K nm0 qual params x.body x.scope [] [] (Γ.cad g) fd) (hp : parOf params = some [x.a]) :
    CatOk Γ B.P B.w B.mg B.base k (runC cx g) (Γ.cad g) := by
  obtain ⟨N, a, scope, body, t, j⟩ := x
  unfold Kx.ok at hx
  simp only [Bool.and_eq_true, decide_eq_true_eq] at hx
  obtain ⟨h1, h2, ⟨h3, h3', h4, h5⟩, h6, h7⟩ := hx
  have S := C8.fnScope_by h1
  obtain ⟨a1, a2, a3, a4⟩ := plainN_ok h6
  dsimp only at *
  have hbd := binds_pos (K := Γ.K) (FdN.of F hp) (by simp)
  obtain ⟨oc, od, dV, kV, doc, pm, an, cdv, ct, osl, rfl, lk, hcd, _, _⟩ := F.ex
  refine ⟨oc, od, _, qual, _, _, scope, dV, kV, doc, pm, cdv, ct, an, osl, N, a, lk, hcd, hbd, S, a1, .inl a2, a3, a4, ?_⟩
  intro A outer s H E f c' q tl r n w0 Q hga hr act hco htl hn p
  unfold ckTry at h7
  split at h7
  · rename_i v q1 q2 q3 q4 a' q5 q6 q7 z q8 e v' q9 e' q10 q11 q12 q13 rest
    simp only [Bool.and_eq_true, decide_eq_true_eq] at h7
    obtain ⟨rfl, rfl, rfl, k1, k2, k3, k4⟩ := h7
    obtain ⟨v1, v2, v3, v4⟩ := plainN_ok k1
    obtain ⟨e1, e2, e3, e4⟩ := plainN_ok k2
    dsimp only at v1 v2 v3 v4 e1 e2 e3 e4
    generalize hX : cxOf (L2.CX B.P B.w) B.P B.w Γ.K B.mg B.base N qual scope (Γ.cad g) cdv A outer s H E = X at act ⊢
    have SX : Sx Γ ((⟨N, a', scope, [], t, j⟩ : Kx).cv gl nm) k X (fun c d _ H => E c d H) := by
      rw [← hX]
      exact ⟨rfl, rfl, rfl, S.nd, rfl, hr, hga, fun _ => takes_of rfl rfl rfl rfl, fun _ => passes_of rfl, fun _ => rfl, fun _ => rfl, fun σ => passAt (takes_of rfl rfl rfl rfl) σ, o.ok rfl rfl, fun _ _ => rfl, fun q hq => (by cases (show none = some q from hq)), hnm⟩
    have hB : baOf X = B := by rw [← hX]; rfl
    have hXN : X.N = N := by rw [← hX]; rfl
    have hXs : X.env.scope = scope := by rw [← hX]; rfl
    have hXk : X.env.kindOf e' = some .local := by rw [← hX]; exact e2
    have hXf : ∀ y, X.fn y = true := by rw [← hX]; exact fun _ => rfl
    have hXe : X.ex = [] := by rw [← hX]; rfl
    have hXst : X.stack = X.env :: X.outer := by rw [← hX]; rfl
    have hXfr : X.env.frame = some X.env.locals := by rw [← hX]; rfl
    obtain ⟨gz1, gz2, gz3, _⟩ := SX.glo k3
    have hc : Names X z (.ref (Γ.cls t.c)) := ⟨gz1, gz3, .inl gz2⟩
    have P3 : PSs X rest (rdS Γ (fun c d _ H => E c d H) (exs cx t.d.body)) := l_Ss (ck_ok EV hT fuel) SX hB k4
    have P1 : PS X (.Assign [.Name v' q1] (.Constant .none q2 q3) q4) (tAsg (tC .non) (gName t.i)) := ps_set SX.nd (by rw [hXN]; exact v1) (.inl (by rw [hXs]; exact v2)) pe_non (hf := .inl (hXf v'))
    have P2 := ps_caught (i := j) (tb := fun W => tDrop fun σZ HZ Q => σZ[0]? = some (some (.ref f)) ∧ HZ c' = some (LamX.CodeO c' q) ∧ tl (WE W σZ) HZ Q) (ts := tAsg (tVar j) (gName t.i)) (b0 := .Assign [.Name v' q9] (.Name e' q10) q11) (suite := []) (body := [.Expr (.Call (.Name a' q5) [] [] q6) q7]) (p1 := q8) (p2 := q12) (p3 := q13)
      hXe hXst hXfr SX.nd (by rw [hXN]; exact e1) hXk hc (SX.tk rfl) (fun W pn xe tk _ => pss_one (ps_expr (act W pn xe q5 q6 tk)))
      (fun b => pss_one (ps_set SX.nd (by show X.N[_]? = _; rw [hXN]; exact v1) (.inl (by show X.env.scope.names.lookup _ = _; rw [hXs]; exact v2)) (pe_var (by show X.N[_]? = _; rw [hXN]; exact e1) (.inl (by show X.env.scope.names.lookup _ = _; rw [hXs]; exact e2)) e3 e4) (hf := .inl (hXf v'))))
    refine ⟨_, pss_cons P1 (pss_cons P2 P3), ?_⟩
    have hlen : (L2.start N [V.ref f]).length = t.d.nl := by
      rw [← h2]
      unfold L2.start
      have : 0 < N.length := (List.getElem?_eq_some_iff.mp a1).1
      simp
      omega
    have h0 : (L2.start N [V.ref f])[0]? = some (some (V.ref f)) := by
      unfold L2.start
      rfl
    generalize L2.start N [V.ref f] = σ0 at hlen h0 ⊢
    unfold runC at p
    rw [hg] at p
    dsimp only at p
    have hK : X.K = Γ.K := SX.hK.symm
    refine ⟨by rw [List.getElem?_set_ne h4]; exact h0, hco, htl _ _ ?_⟩
    cases r with
    | ok d μ =>
      intro w' u H' le ok rv
      refine ⟨w', startC t .non, μ, [], ⟨startC_ok (v := .non) (by rw [List.length_set, hlen]) (List.getElem?_set_self (by rw [hlen]; exact h3)) (.val .non), ok⟩, trivial, ?_⟩
      exact (body_end (E := E) (d := t.d) (n := n) hn (fun _ _ _ _ h => h) p).mono le
    | exc c ns vs μ =>
      intro w' H' dx le ok ex
      dsimp only at p
      cases hs : subC cx.T c t.c with
      | none => rw [hs] at p; exact p.elim
      | some b =>
        rw [hs] at p
        refine ⟨b, by rw [hK]; exact subC_ok EV.cl hs, fun hb => ?_, fun hb => ⟨_, dx, rfl, rfl, fun b0 hb0 => ?_⟩⟩
        · subst hb
          exact p (w'.cut n) H' dx (cut_le le hn) (ok.cut _) ex
        · subst hb
          have ok2 : OkW Γ (w'.add b0 (exO b0 (Γ.cls c) dx)) μ (upd H' b0 (exO b0 (Γ.cls c) dx)) := ok.add hb0
          have le2 : w'.le (w'.add b0 (exO b0 (Γ.cls c) dx)) := Wd.add_le (ok.fresh hb0)
          refine ⟨_, List.getElem?_set_self (by rw [List.length_set, hlen]; exact h3'), ?_⟩
          obtain ⟨fs, x1, x2, x3⟩ := ex
          refine ⟨_, startC t (.exn c ns vs), μ, [], ⟨startC_ok (v := .ref b0) (by simp [hlen]) ?_ (.val (.exn upd_same (le2.1 _ _ x1) x2 (Rps.mono le2.1 _ _ x3))), ok2⟩, trivial, ?_⟩
          · rw [List.getElem?_set_ne (Ne.symm h5), List.getElem?_set_self (by simp [hlen]; exact h3)]
          · exact (body_end (E := E) (d := t.d) (n := n) hn (fun _ _ _ _ h => h) p).mono (Wd.trans le le2)
    | stuck => exact p.elim
  · cases h7
theorem CatOk.mono {k k' : Nat} {lf : Nat → R D → R D} {a : Addr} (h : CatOk Γ B.P B.w B.mg B.base k lf a) (hk : k ≤ k') : CatOk Γ B.P B.w B.mg B.base k' lf a := by
  obtain ⟨oc, od, name, qual, params, body, scope, dV, kV, doc, pm, cdv, ct, an, osl, N, x, h1, h2, h3, h4, h5, h6, h7, h8, run⟩ := h
  exact ⟨oc, od, name, qual, params, body, scope, dV, kV, doc, pm, cdv, ct, an, osl, N, x, h1, h2, h3, h4, h5, h6, h7, h8, fun A outer s H E f c' q tl r n w0 Q hg hr => run A outer s H E f c' q tl r n w0 Q hg (hr.mono hk)⟩
theorem cat_0 {k fuel : Nat} {x : Kx} (hx : x.ok G gl nm fuel = true) {a : Addr} {nm0 qual : Str} {params : Arguments} {fd : FuncData} (F : FunD Γ.K nm0 qual params x.body x.scope [] [] a fd) (hp : parOf params = some [x.a]) :
    CatOk Γ B.P B.w B.mg B.base k (fun _ _ => .stuck) a := by
  unfold Kx.ok at hx
  simp only [Bool.and_eq_true, decide_eq_true_eq] at hx
  obtain ⟨h1, h2, _, h6, h7⟩ := hx
  have S := C8.fnScope_by h1
  obtain ⟨a1, a2, a3, a4⟩ := plainN_ok h6
  have hbd := binds_pos (K := Γ.K) (FdN.of F hp) (by simp)
  obtain ⟨oc, od, dV, kV, doc, pm, an, cdv, ct, osl, rfl, lk, hcd, _, _⟩ := F.ex
  exact ⟨oc, od, _, qual, _, _, x.scope, dV, kV, doc, pm, cdv, ct, an, osl, x.N, x.a, lk, hcd, hbd, S, a1, .inl a2, a3, a4, fun A outer s H E f c' q tl r n w0 Q _ _ _ _ _ _ p => p.elim⟩
/-- the level of the defs that call n deep -/
abbrev lvl (n : Nat) : Nat := 5 * n + 3
/-- what makes one -/
def MkF (Γ : Glob) (B : Ba) (k : Nat) (mf : List D → Mu → R D) (c f : Nat) (ps : List Str) : Prop := ∃ kind g j, kind < 2 ∧ (∀ args μ, mf args μ = makeG kind g c args μ) ∧ j + 1 ≤ k ∧ FOk Γ B.P B.w B.mg B.base j g f ps
/-- all defs, by the depth of the calls -/
theorem all_G (T : Tab) (hT : G.T = T) (o : Wo Γ B gl) (hnm : nm = Γ.nm)
    (V0 : ∀ n, (∀ f ps, G.pn f = some ps → FOk Γ B.P B.w B.mg B.base (lvl n) (callF T n f) f ps) → (∀ g t, T.ct g = some t → CatOk Γ B.P B.w B.mg B.base (lvl n) ((lev T n).lf g) (Γ.cad g)) →
      (∀ c i f ps, T.cl c = some i → i.kind < 2 → i.init = some f → G.pn f = some ps → MkF Γ B (lvl n + 2) ((lev T n).mkc c) c f ps) → Ev Γ B (lvl n + 2) (lev T n) G)
    (D : ∀ f ps, G.pn f = some ps → ∃ (x : Dx) (fuel : Nat) (nm0 qual : Str) (params : Arguments) (fd : FuncData), x.ps = ps ∧ T.fn f = some x.d ∧ x.ok G gl nm fuel = true ∧ FunD Γ.K nm0 qual params x.body x.scope [] [] (Γ.fad f) fd ∧ parOf params = some ps ∧ ∀ q, x.lm = some q → LmD Γ B qual fd.code q)
    (DC : ∀ g t, T.ct g = some t → ∃ (x : Kx) (fuel : Nat) (nm0 qual : Str) (params : Arguments) (fd : FuncData), x.t = t ∧ x.ok G gl nm fuel = true ∧ FunD Γ.K nm0 qual params x.body x.scope [] [] (Γ.cad g) fd ∧ parOf params = some [x.a]) :
    ∀ n, (∀ f ps, G.pn f = some ps → FOk Γ B.P B.w B.mg B.base (lvl n) (callF T n f) f ps) ∧ (∀ g t, T.ct g = some t → CatOk Γ B.P B.w B.mg B.base (lvl n) ((lev T n).lf g) (Γ.cad g)) ∧
      (∀ c i f ps, T.cl c = some i → i.kind < 2 → i.init = some f → G.pn f = some ps → MkF Γ B (lvl n + 2) ((lev T n).mkc c) c f ps)
  | 0 => by
    have z : ∀ f ps, G.pn f = some ps → FOk Γ B.P B.w B.mg B.base (lvl 0) (callF T 0 f) f ps := fun f ps h => by
      obtain ⟨x, fuel, nm0, qual, params, fd, rfl, hf, hx, F, hp, _⟩ := D f ps h
      exact ⟨fd, FdN.of F hp, F.kp, ⟨fun vs H Q E ⟨w, μ, ds, _, _, p⟩ => p.elim, fun A outer s H args us vs Q E _ _ _ _ _ ⟨w, μ, ds, _, _, p⟩ => p.elim⟩, fun_look F⟩
    refine ⟨z, fun g t h => ?_, fun c i f ps hc hk hi hps => ?_⟩
    · obtain ⟨x, fuel, nm0, qual, params, fd, rfl, hx, F, hp⟩ := DC g t h
      exact cat_0 hx F hp
    · exact ⟨0, callF T 0 f, lvl 0, by omega, fun _ _ => rfl, by unfold lvl; omega, z f ps hps⟩
  | n + 1 => by
    obtain ⟨ih1, ih2, ih3⟩ := all_G T hT o hnm V0 D DC n
    have EV := V0 n ih1 ih2 ih3
    refine ⟨fun f ps h => ?_, fun g t h => ?_, fun c i f ps hc hk hi hps => ?_⟩
    · obtain ⟨x, fuel, nm0, qual, params, fd, rfl, hf, hx, F, hp, hl⟩ := D f ps h
      exact ⟨fd, FdN.of F hp, F.kp, (def_G EV (by rw [lev_T, hT]) o hnm hx (by rw [lev_T]; exact hf) F hl).mono (by unfold lvl; omega), fun_look F⟩
    · obtain ⟨x, fuel, nm0, qual, params, fd, rfl, hx, F, hp⟩ := DC g t h
      exact (cat_G EV (by rw [lev_T, hT]) o hnm hx (by rw [lev_T]; exact h) F hp).mono (by unfold lvl; omega)
    · exact ⟨i.kind, callF T n f, lvl n, hk, fun args μ => makeC_eq hc hi args μ, by unfold lvl; omega, ih1 f ps hps⟩
/-- the text's facts of the instances' classes -/
structure ClsF (Γ : Glob) (T : Tab) (G : Gd) : Prop where
  mkk : ∀ c i f, T.cl c = some i → i.kind < 2 → i.init = some f → Mk Γ.K (Γ.cls c) (Γ.fad f)
  mt : ∀ c i m f, T.cl c = some i → i.meths.lookup m = some f → MtK Γ c m f ∧ (m, f) ∈ G.ms
  eq : ∀ c i f, T.cl c = some i → i.meths.lookup mEq = some f → (PySem.W.findIn Γ.K (.ref (Γ.cls c)) "__eq__" = some (some (.ref (Γ.fad f))) ∧ PySem.W.isFn Γ.K (.ref (Γ.fad f)) = true ∧ (∀ n ∈ baseNames, PySem.W.notFirst Γ.K (Γ.cls c) (.type n) = true) ∧
    (∀ t j, T.cl t = some j → j.kind < 2 → PySem.W.notFirst Γ.K (Γ.cls c) (.ref (Γ.cls t)) = true) ∧ PySem.W.findIn Γ.K (.ref (Γ.cls c)) "__ne__" = some (some (.builtin "object.__ne__")) ∧ PySem.W.mroIn Γ.K (Γ.cls c) (.type "object") = some true) ∧ ∃ ps, G.pn f = some ps ∧ pmOk 2 [] ps [0, 1] = true
  st : ∀ c i f, T.cl c = some i → i.meths.lookup mStr = some f → (PySem.W.findIn Γ.K (.ref (Γ.cls c)) "__str__" = some (some (.ref (Γ.fad f))) ∧ PySem.W.isFn Γ.K (.ref (Γ.fad f)) = true) ∧ ∃ ps, G.pn f = some ps ∧ pmOk 1 [] ps [0] = true
  sm : ∀ q ∈ G.sm, SmK Γ q.1 q.2.1 q.2.2
theorem ev_full {T : Tab} (hT : G.T = T) (Q : ClOk Γ T) (F : ClsF Γ T G) {n : Nat} (ih : ∀ f ps, G.pn f = some ps → FOk Γ B.P B.w B.mg B.base (lvl n) (callF T n f) f ps) (ih2 : ∀ g t, T.ct g = some t → CatOk Γ B.P B.w B.mg B.base (lvl n) ((lev T n).lf g) (Γ.cad g))
    (ih3 : ∀ c i f ps, T.cl c = some i → i.kind < 2 → i.init = some f → G.pn f = some ps → MkF Γ B (lvl n + 2) ((lev T n).mkc c) c f ps) : Ev Γ B (lvl n + 2) (lev T n) G := by
  have me : ∀ {c m f : Nat}, methOf (lev T n) c m = some f → ∃ i, T.cl c = some i ∧ i.meths.lookup m = some f := fun {c m f} h => by
    unfold methOf at h
    rw [lev_T] at h
    split at h
    · exact ⟨_, by assumption, h⟩
    · cases h
  have E0 : ∀ c f, methOf (lev T n) c mEq = some f → EqK Γ (lev T n).T B.P B.w B.mg B.base (lvl n + 2) ((lev T n).cf f) c f := fun c f h => by
    obtain ⟨i, h1, h2⟩ := me h
    obtain ⟨⟨q1, q2, q3, q4, q5, q6⟩, ps, r1, r2⟩ := F.eq c i f h1 h2
    exact ⟨q1, q2, q3, by rw [lev_T]; exact q4, q5, q6, ps, lvl n, by omega, ih f ps r1, r2⟩
  have E2 : ∀ c f, methOf (lev T n) c mEq = some f → EqK Γ (lev T n).T B.P B.w B.mg B.base (lvl n + 1) ((lev T n).cf f) c f := fun c f h => by
    obtain ⟨q1, q2, q3, q4, q5, q6, ps, j, r0, r1, r2⟩ := E0 c f h
    obtain ⟨i, h1, h2⟩ := me h
    obtain ⟨_, ps', r1', r2'⟩ := F.eq c i f h1 h2
    exact ⟨q1, q2, q3, q4, q5, q6, ps', lvl n, by omega, ih f ps' r1', r2'⟩
  have Q' : ClOk Γ (lev T n).T := by rw [lev_T]; exact Q
  refine ⟨by unfold lvl; omega, Q', fun f ps h => ⟨lvl n, by omega, ih f ps h⟩, fun g t h => (ih2 g t (by rw [← hT]; exact h)).mono (by omega), fun c i f ps hc hk hi hps => ?_, fun c i m f hc hl => F.mt c i m f (by rw [lev_T] at hc; exact hc) hl, fun c f h => ?_, F.sm, fun S _ => tru_plain S, fun {C X W} S hB σ0 => ?_, fun {C X W} S hB σ0 => ?_, fun {C X W} S hB σ0 => ?_⟩
  · rw [hT] at hc
    exact ⟨ih3 c i f ps hc hk hi hps, F.mkk c i f hc hk hi⟩
  · obtain ⟨i, h1, h2⟩ := me h
    obtain ⟨⟨q1, q2⟩, ps, r1, r2⟩ := F.st c i f h1 h2
    exact ⟨q1, q2, ps, lvl n, by omega, ih f ps r1, r2⟩
  · subst hB
    exact eq_full S Q' E0
  · subst hB
    exact ne_full S Q' E0
  · subst hB
    exact in_full S Q' E2
end
end KP
end

section
set_option maxRecDepth 100000
set_option maxHeartbeats 4000000
/-! KP22: the law is called. -/
namespace KP
open PySem PySem.Spec PyProof.Rows L2
theorem caller_quiet : callerA.guards = some [] := by first | rfl | decide +kernel
/-- the abstract heap in which the script alone may stand -/
def scrH (K : PySem.W.Frag) (a : Addr) (vs : List Value) (ns : List Int) : Hp := match K.lookup a with
  | some _ => fun _ => none
  | none => fun b => if b = a then some (.frz { cls := .type "list", data := .seq vs.toArray } (.lst (ns.map V.int))) else none
abbrev tabO : Obj := { cls := .none, data := .fields #[] }
/-- the heap in which the script and the tables stand -/
def lawH (K : PySem.W.Frag) (a : Addr) (vs : List Value) (ns : List Int) (ts : List Addr) : Hp := fun b => if b ∈ ts then some (.tbl #[]) else scrH K a vs ns b
theorem scrH_some {K : PySem.W.Frag} {a b : Addr} {vs : List Value} {ns : List Int} {u : HO} (h : scrH K a vs ns b = some u) : K.lookup a = none ∧ b = a ∧ u = .frz { cls := .type "list", data := .seq vs.toArray } (.lst (ns.map V.int)) := by
  unfold scrH at h
  cases hk : K.lookup a with
  | some o =>
    rw [hk] at h
    cases h
  | none =>
    rw [hk] at h
    by_cases hb : b = a
    · have h' : (if b = a then some (HO.frz { cls := .type "list", data := .seq vs.toArray } (.lst (ns.map V.int))) else none) = some u := h
      rw [if_pos hb] at h'
      exact ⟨rfl, hb, (Option.some.inj h').symm⟩
    · have h' : (if b = a then some (HO.frz { cls := .type "list", data := .seq vs.toArray } (.lst (ns.map V.int))) else none) = some u := h
      rw [if_neg hb] at h'
      cases h'
theorem law_callG {P : Program} {w : World} {K : PySem.W.Frag} {mg mb : Str → Option Value} {k : Nat} {fa a : Addr} {cs : List (Addr × Addr)} {fd : FuncData} {x : Str} {sp : Sp} {s₁ : Shared} {vs : List Value} {ns : List Int}
    (KX : K.In s₁.heap) (hns : s₁.heap.Ns mainGlobals mg) (hb : s₁.heap.Ns builtinsNs mb) (hbb : ∀ x : Str, x ≠ "__name__" → mb x = bootBuiltins x) (hlim : s₁.heap.NoLimit) (hg : s₁.gens = #[])
    (hT : ∀ p ∈ cs, s₁.heap.get? p.2 = some tabO) (nT : ∀ p ∈ cs, K.lookup p.2 = none) (hC : ∀ p ∈ cs, PySem.W.CodeHd s₁.heap p.1 p.2)
    (hbm : ∃ (bm : Addr) (ob : Obj), mg "__builtins__" = some (.ref bm) ∧ bm ≠ builtinsNs ∧ s₁.heap.get? bm = some ob ∧ ob.cls = .type "module" ∧ ob.dict = some builtinsNs ∧ ob.data = .plain)
    (ha : s₁.heap.get? a = some { cls := .type "list", data := .seq vs.toArray }) (hi : IntsAre vs ns) (hl : ns.length ≤ sizeLine) (hr : Room k callerA)
    (F : ∀ base : Heap, K.In base → base.Ns mainGlobals mg → (∀ p ∈ cs, LamX.TabB base mg p.1 p.2) → FnG P w K mg base k fa fd [x] sp) (hbind : ∀ (s : Shared) (u : Value), BindsTo s fd ⟨[u], []⟩ [(x, u)])
    (hsp : ∀ H : Hp, (∀ p ∈ cs, H p.2 = some (.tbl #[])) → SqL K H a (ns.map V.int) → sp [.ref a] H (fun v _ => v = .bl true) fun _ _ _ => False) :
    codeAny (model P w) callerA (.call (.ref fa) ⟨[.ref a], []⟩) (fun r s' => r = .ok (.ret (.bool true)) ∧ OldK s₁.heap s'.heap ∧ s'.os = s₁.os ∧ AllBare s'.gens) s₁ := by
  have rv : Vals (ns.map V.int) vs := vals_ints hi
  have tabAt : ∀ b ∈ cs.map (·.2), ∃ p ∈ cs, p.2 = b := fun b hb => List.mem_map.mp hb
  have tabMem : ∀ p ∈ cs, p.2 ∈ cs.map (·.2) := fun p hp => List.mem_map.mpr ⟨p, hp, rfl⟩
  have ta : a ∉ cs.map (·.2) := fun z => by
    obtain ⟨p, hp, e⟩ := tabAt a z
    have q := hT p hp
    rw [e, ha] at q
    have q2 := congrArg Obj.data (Option.some.inj q)
    cases q2
  generalize hH : lawH K a vs ns (cs.map (·.2)) = H
  have tl : ∀ p ∈ cs, H p.2 = some (.tbl #[]) := fun p hp => by
    rw [← hH]
    exact if_pos (tabMem p hp)
  have cases_ : ∀ b u, H b = some u → (b ∈ cs.map (·.2) ∧ u = .tbl #[]) ∨ (K.lookup a = none ∧ b = a ∧ u = .frz { cls := .type "list", data := .seq vs.toArray } (.lst (ns.map V.int))) := fun b u e => by
    rw [← hH] at e
    unfold lawH at e
    by_cases hb : b ∈ cs.map (·.2)
    · rw [if_pos hb] at e
      exact .inl ⟨hb, (Option.some.inj e).symm⟩
    · rw [if_neg hb] at e
      exact .inr (scrH_some e)
  have hS : SqL K H a (ns.map V.int) := by
    cases hk : K.lookup a with
    | some o =>
      have e : o = ⟨.type "list", none, .seq vs.toArray 0, #[]⟩ := Option.some.inj ((KX a o hk).symm.trans ha)
      subst e
      exact .inr ⟨_, vs.toArray, _, hk, rfl, rfl, rfl, by rw [List.size_toArray, hi.length]; exact hl, by simpa using rv⟩
    | none =>
      refine .inl (.inr ⟨{ cls := .type "list", data := .seq vs.toArray }, ?_⟩)
      rw [← hH]
      unfold lawH
      rw [if_neg ta]
      unfold scrH
      rw [hk]
      exact if_pos rfl
  have hok : HOk P w H s₁.heap := fun b u e => by
    rcases cases_ b u e with ⟨h1, rfl⟩ | ⟨_, rfl, rfl⟩
    · obtain ⟨p, hp, rfl⟩ := tabAt b h1
      exact hT p hp
    · exact ⟨ha, by rw [List.length_map]; exact hl, vs, _, rv, ha⟩
  -- the base: all but the script and the tables
  have away : ∀ {b : Addr} {o : Obj}, s₁.heap.get? b = some o → (∀ l n, o.data ≠ .seq l n) → (∀ l : Array Value, o.data = .fields l → l ≠ #[]) → (hidT s₁.heap H).get? b = some o := fun {b o} e h1 h2 => hidT_get e (by
    cases q : H b with
    | none => rfl
    | some u =>
      rcases cases_ b u q with ⟨hb, _⟩ | ⟨_, hb, _⟩
      · obtain ⟨p, hp, rfl⟩ := tabAt b hb
        have e' := hT p hp
        rw [e] at e'
        cases e'
        exact absurd rfl (h2 #[] rfl)
      · rw [hb, ha] at e
        cases e
        exact absurd rfl (h1 _ _))
  have isDict : ∀ {b : Addr} {m : Str → Option Value}, s₁.heap.Ns b m → (hidT s₁.heap H).Ns b m := fun {b m} ⟨o, es, ep, e, d, r⟩ => ⟨o, es, ep, away e (fun l n z => by rw [d] at z; cases z) (fun l z => by rw [d] at z; cases z), d, r⟩
  have hKb : K.In (hidT s₁.heap H) := fun b o e => hidT_get (KX b o e) (by
    cases q : H b with
    | none => rfl
    | some u =>
      rcases cases_ b u q with ⟨hb, _⟩ | ⟨h1, hb, _⟩
      · obtain ⟨p, hp, rfl⟩ := tabAt b hb
        rw [nT p hp] at e
        cases e
      · rw [hb, h1] at e
        cases e)
  have hM : Mod K mg (hidT s₁.heap H) := ⟨hKb, isDict hns, ⟨mb, isDict hb, hbb⟩, let ⟨mc, h1, h2⟩ := hlim; ⟨mc, isDict h1, h2⟩⟩
  have TB : ∀ p ∈ cs, LamX.TabB (hidT s₁.heap H) mg p.1 p.2 := fun p hp => by
    have hTp := hT p hp
    refine ⟨?_, ?_, fun z => ?_⟩
    · obtain ⟨o, us, file, tf, flags, tg, inF, text, tt, e1, r1, r2, r3, r⟩ := hC p hp
      refine ⟨o, us, file, tf, flags, tg, inF, text, tt, away e1 (fun l n z => by rw [r2] at z; cases z) (fun l z z2 => ?_), r1, r2, r3, r⟩
      rw [r2] at z
      cases z
      rw [z2] at r3
      simp at r3
    · obtain ⟨bm, ob, b1, b2, b3, b4, b5, b6⟩ := hbm
      refine ⟨bm, ob, b1, b2, fun q => ?_, fun q => ?_, away b3 (fun l n z => by rw [b6] at z; cases z) (fun l z => by rw [b6] at z; cases z), b4, b5, b6⟩
      · obtain ⟨o, es, ep, e, hd, _⟩ := hns
        rw [q, e] at b3
        cases b3
        rw [hd] at b6
        cases b6
      · rw [q, hTp] at b3
        cases b3
        cases b6
    · obtain ⟨o, es, ep, e, hd, _⟩ := hns
      rw [z, hTp] at e
      cases e
      cases hd
  have e0 : Env0 P w K mg (hidT s₁.heap H) callerA [] s₁ H := ⟨rfl, hM, fun b o e => of_hidT e, Nat.le_of_eq (hidT_size _ _), trivial, fun b z => absurd (show b ∈ ([] : List Addr) from z) (by simp), hok, .of_eq hg⟩
  refine codeAny_mono ((F _ hKb (isDict hns) TB).run callerA [] s₁ H ⟨[.ref a], []⟩ [.ref a] [.ref a] _ _ hr caller_quiet e0 (hbind s₁ (.ref a)) (.cons rfl .nil) (hsp H tl hS)) fun r s' h => ?_
  cases r with
  | error e => exact (let ⟨_, _, _, _, _, _, _, _, _, _, _, _, z⟩ := h; z : False).elim
  | ok fl =>
    cases fl with
    | ret u =>
      obtain ⟨v, H', os, bare, un, hok', r', q⟩ := h
      obtain rfl : v = .bl true := q
      obtain rfl : u = Value.bool true := r'
      have kept : ∀ b o, b ∉ cs.map (·.2) → s₁.heap.get? b = some o → s'.heap.get? b = some o := fun b o nb e => by
        cases z : H b with
        | none => exact un.keep b o e z (fun y => absurd (show b ∈ ([] : List Addr) from y) (by simp)) (by simp)
        | some u =>
          rcases cases_ b u z with ⟨hb, _⟩ | ⟨_, _, rfl⟩
          · exact absurd hb nb
          · have z2 := un.frzs b _ _ z
            have e1 := (hok b _ z).1
            rw [e] at e1
            cases e1
            exact (hok' b _ z2).1
      have more : ∀ p ∈ cs, ∃ ms : Array Value, s'.heap.get? p.2 = some { cls := .none, data := .fields ms } := fun p hp => by
        obtain ⟨ms, z⟩ := un.tbls p.2 #[] (tl p hp)
        exact ⟨_, hok' p.2 _ z⟩
      refine ⟨rfl, ⟨fun b o e => ?_, fun b o e => ?_⟩, os, bare⟩
      · by_cases hb : b ∈ cs.map (·.2)
        · obtain ⟨p, hp, rfl⟩ := tabAt b hb
          obtain ⟨ms, hm⟩ := more p hp
          have e' := hT p hp
          rw [e] at e'
          cases e'
          exact .inr (.inl ⟨((hC p hp).tab (hT p hp)).isCodeTable, rfl, #[], ms, rfl, by rw [Array.empty_append]; exact hm⟩)
        · exact .inl (kept b o hb e)
      · by_cases hb : b ∈ cs.map (·.2)
        · obtain ⟨p, hp, rfl⟩ := tabAt b hb
          obtain ⟨ms, hm⟩ := more p hp
          exact ⟨_, hm⟩
        · exact ⟨o, kept b o hb e⟩
    | next => exact False.elim h
    | brk => exact False.elim h
    | cont => exact False.elim h
/-- a law over a head by facts -/
theorem walk_G {l : PySem.W.OpenLaw} {n k : Nat} {q : Program} {loose : List Str} {XP : (Str → Option Value) → Heap → Prop} {YP : World → Heap → Prop} {d : DefRec} {x : Str}
    (hn : l.most = some n) (hn2 : n ≤ sizeLine) (hdf : d.params.defaults = []) (hr : Room k callerA)
    (F : ∀ (w : World) (mg : Str → Option Value) (fa : Addr) (h : Heap), YP w h → h.Ns mainGlobals mg → mg d.name = some (.ref fa) →
      ∃ (K : PySem.W.Frag) (cs : List (Addr × Addr)) (fd : FuncData) (sp : Sp), K.In h ∧ (∀ p ∈ cs, h.get? p.2 = some tabO ∧ K.lookup p.2 = none ∧ PySem.W.CodeHd h p.1 p.2) ∧ (∀ (s : Shared) (u : Value), BindsTo s fd ⟨[u], []⟩ [(x, u)]) ∧
        (∀ (H : Hp) (a : Addr) (ns : List Int), ns.length ≤ n → (∀ p ∈ cs, H p.2 = some (.tbl #[])) → SqL K H a (ns.map V.int) → sp [.ref a] H (fun v _ => v = .bl true) fun _ _ _ => False) ∧
        ∀ base : Heap, K.In base → base.Ns mainGlobals mg → (∀ p ∈ cs, LamX.TabB base mg p.1 p.2) → FnG l.prog w K mg base k fa fd [x] sp) :
    PySem.W.WalkO q loose XP YP l.row.toRowW d [] (fun f vs => PySem.call f vs) := by
  refine Att.attach_callB hn hdf fun w s₀ s₁ mg mb fa o pm cd doc a vs ns G Y ho hd hcd hmg hobj hints hlen hbits hg => ?_
  obtain ⟨K, cs, fd, sp, KX, hc, hb, hsp, hF⟩ := F w mg fa _ Y G.T.g hmg
  exact law_callG KX G.T.g G.T.b G.T.builtins G.T.nolimit hg (fun p hp => (hc p hp).1) (fun p hp => (hc p hp).2.1) (fun p hp => (hc p hp).2.2) G.T.bmain hobj hints (Nat.le_trans hlen hn2) hr hF hb fun H hH hS => hsp H a ns hlen hH hS
/-! ### the Hook: functions, facts, and one's own look at the written part; the empty tables of code objects stand apart -/
def isTab (o : Obj) : Bool := match o with
  | ⟨.none, none, .fields vs, sl⟩ => vs.isEmpty && sl.isEmpty
  | _ => false
def cutT (K : PySem.W.Frag) : PySem.W.Frag := K.filter fun p => !isTab p.2
/-- the tables of the top that are looked at: the names, their keys -/
abbrev Kts : Type := List (Str × List Str)
abbrev AlX : Type := (Bool × He.AlD) × List (Option (List (Option (Str × Int))))
def obsX (xf : PySem.W.Frag → PySem.W.Frag → Bool) (fa : List He.Fa) (fn : List He5.DefA) (ts : Kts) (K : PySem.W.Frag) : AlX := ((xf (cutT K) K, He5.obsA fa fn (cutT K)), ts.map fun t => He.dicW (cutT K) (He.ga (cutT K) t.1))
def AllIn (K : PySem.W.Frag) (h : Heap) : Prop := ∀ p ∈ K, h.get? p.1 = some p.2
theorem allIn_frG {as : List Addr} {h : Heap} : AllIn (He.frG h.get? as) h := fun p hp => by
  unfold He.frG at hp
  obtain ⟨a, _, h2⟩ := List.mem_filterMap.mp hp
  obtain ⟨o, h3, h4⟩ := Option.map_eq_some_iff.mp h2
  subst h4
  exact h3
theorem mem_lk : ∀ {K : PySem.W.Frag} {a : Addr} {o : Obj}, K.lookup a = some o → (a, o) ∈ K
  | [], _, _, e => by cases e
  | (b, x) :: K, a, o, e => by
    rw [List.lookup_cons] at e
    cases q : (a == b) with
    | true =>
      rw [q] at e
      cases e
      rw [beq_iff_eq.mp q]
      exact List.mem_cons_self
    | false =>
      rw [q] at e
      exact List.mem_cons_of_mem _ (mem_lk e)
theorem AllIn.in_ {K : PySem.W.Frag} {h : Heap} (x : AllIn K h) : K.In h := fun a o e => x (a, o) (mem_lk e)
theorem AllIn.cut {K : PySem.W.Frag} {h : Heap} (x : AllIn K h) : AllIn (cutT K) h := fun p hp => x p (List.mem_filter.mp hp).1
theorem cut_none {K : PySem.W.Frag} {h : Heap} (x : AllIn K h) {a : Addr} {o : Obj} (e : h.get? a = some o) (ht : isTab o = true) : (cutT K).lookup a = none := by
  cases q : (cutT K).lookup a with
  | none => rfl
  | some o' =>
    have hm := mem_lk q
    have h1 := x.cut _ hm
    have h2 := (List.mem_filter.mp hm).2
    dsimp only at h1 h2
    rw [e] at h1
    cases h1
    rw [ht] at h2
    cases h2
def valX (fn : List He5.DefA) (ts : Kts) (w : World) : AlX := ((true, He5.valA fn), ts.map fun t => some (He.keysIn w.params t.2))
def hookX (n : Nat) (xf : PySem.W.Frag → PySem.W.Frag → Bool) (fa : List He.Fa) (fn : List He5.DefA) (ts : Kts) : PySem.W.Hook where
  α := AlX
  obs := fun s => obsX xf fa fn ts (He.frG s.heap.get? (He5.asA s.heap.get? n))
  val := fun w => valX fn ts w
  says := fun w h => ∃ K : PySem.W.Frag, AllIn K h ∧ xf (cutT K) K = true ∧ He5.SaysA fa fn (cutT K) ∧ ts.map (fun t => He.dicW (cutT K) (He.ga (cutT K) t.1)) = ts.map fun t => some (He.keysIn w.params t.2)
  of := fun _ _ e => ⟨_, allIn_frG, congrArg (fun z : AlX => z.1.1) e, congrArg (fun z : AlX => z.1.2) e, congrArg (fun z : AlX => z.2) e⟩
  keeps := fun _ _ _ ⟨K, hK, c⟩ k => ⟨K, fun p hp => k _ _ (hK p hp), c⟩
def obX (n : Nat) (xf : PySem.W.Frag → PySem.W.Frag → Bool) (fa : List He.Fa) (fn : List He5.DefA) (ts : Kts) (g : Addr → Option Obj) : AlX := obsX xf fa fn ts (He.frG g (He5.asA g n))
theorem obX_eq {n : Nat} {xf : PySem.W.Frag → PySem.W.Frag → Bool} {fa : List He.Fa} {fn : List He5.DefA} {ts : Kts} {g : Addr → Option Obj} {s : Shared} (h : ∀ a, g a = s.heap.get? a) : obX n xf fa fn ts g = (hookX n xf fa fn ts).obs s := by
  have e : g = s.heap.get? := funext h
  rw [e] <;> rfl
theorem tab_keys {ts : Kts} {K : PySem.W.Frag} {w : World} (h : ts.map (fun t => He.dicW K (He.ga K t.1)) = ts.map fun t => some (He.keysIn w.params t.2)) {t : Str × List Str} (ht : t ∈ ts) : ∃ es n, KDict K w (He.ga K t.1) es n := He.dicW_ok (List.map_inj_left.mp h t ht)
end KP
end

section
set_option maxRecDepth 100000
set_option maxHeartbeats 4000000
/-! KP23: a whole program as a datum; what the head must show of it. -/
namespace KP
open PySem PySem.Spec PyProof.Rows L2
/-- one def: where it stands, its row's parts, its small text -/
structure Fd where
  at_ : Str × Option Str
  name : Str
  qual : Str
  params : Arguments
  x : Dx
  /-- a static method -/
  st : Bool
def adOf (K : PySem.W.Frag) (a : Str × Option Str) (st : Bool) : Addr := if st then He5.wf K (He.ga K a.1) "staticmethod" (a.2.getD Str.empty) else He.fAd K a
def Fd.ad (f : Fd) (K : PySem.W.Frag) : Addr := adOf K f.at_ f.st
def Fd.df (f : Fd) : He5.DefA := ⟨f.ad, f.name, f.qual, f.params, f.x.body, f.x.scope, [], []⟩
def ofD (d : He.DefD) : He5.DefA := ⟨fun K => He.fAd K d.at_, d.name, d.qual, d.params, d.body, d.scope, d.dfl, d.kwd⟩
/-- one class: its name, what it is, an error's __init__ -/
structure Cd where
  nm : Str
  i : ClsI
  ini : Option He.DefD
def gn (x : Str) (g : GR) : Str × GR := (x, g)
/-- a def that gets a lambda -/
structure Kd where
  at_ : Str × Option Str
  name : Str
  qual : Str
  params : Arguments
  x : Kx
def Kd.df (f : Kd) : He5.DefA := ⟨fun K => He.fAd K f.at_, f.name, f.qual, f.params, f.x.body, f.x.scope, [], []⟩
structure Pg where
  gl : List (Str × GR)
  nms : List Str
  fds : List Fd
  cls : List Cd
  kds : List Kd
  /-- static methods: class, name, def -/
  sms : List (Nat × Str × Nat)
def Pg.nm (p : Pg) (i : Nat) : Str := p.nms.getD i Str.empty
def Pg.T (p : Pg) : Tab := ⟨fun f => (p.fds[f]?).map (·.x.d), fun c => (p.cls[c]?).map (·.i), fun g => (p.kds[g]?).map (·.x.t)⟩
def Pg.pn (p : Pg) (f : Nat) : Option (List Str) := (p.fds[f]?).map (·.x.ps)
def Pg.ms (p : Pg) : List (Nat × Nat) := p.cls.flatMap fun c => c.i.meths
def Pg.gd (p : Pg) : Gd := ⟨p.T, p.pn, p.ms, p.sms⟩
def Pg.fat (p : Pg) (f : Nat) : Str × Option Str × Bool := match p.fds[f]? with
  | some x => (x.at_.1, x.at_.2, x.st)
  | none => (Str.empty, none, false)
def Pg.fadr (p : Pg) (K : PySem.W.Frag) (f : Nat) : Addr := adOf K ((p.fat f).1, (p.fat f).2.1) (p.fat f).2.2
theorem Pg.fadr_at {p : Pg} {K : PySem.W.Frag} {f : Nat} {x : Fd} (h : p.fds[f]? = some x) : p.fadr K f = x.ad K := by
  unfold Pg.fadr Pg.fat
  rw [h]
  rfl
theorem Pg.fadr_glo {p : Pg} {K : PySem.W.Frag} {f : Nat} {x : Str} (h : p.fat f = (x, none, false)) : p.fadr K f = He.ga K x := by
  unfold Pg.fadr
  rw [h]
  rfl
def Pg.cat (p : Pg) (c : Nat) : Str := match p.cls[c]? with
  | some x => x.nm
  | none => Str.empty
def Pg.kat (p : Pg) (g : Nat) : Str × Option Str := match p.kds[g]? with
  | some x => x.at_
  | none => (Str.empty, none)
/-- a def's code object, its table -/
def codeA (K : PySem.W.Frag) (f : Addr) : Addr := match K.lookup f with
  | some ⟨_, _, .func fd, _⟩ => (match fd.code with
    | .ref c => c
    | _ => 0)
  | _ => 0
def tabA (K : PySem.W.Frag) (f : Addr) : Addr := match K.lookup (codeA K f) with
  | some ⟨_, _, .fields vs, _⟩ => (match (vs[11]? : Option Value) with
    | some (.ref P) => P
    | _ => 0)
  | _ => 0
def Pg.tb (p : Pg) (K : PySem.W.Frag) : List (Addr × Str) := p.fds.filterMap fun f => f.x.lm.map fun q => (tabA K (f.ad K), q)
def Pg.cs (p : Pg) (K : PySem.W.Frag) : List (Addr × Addr) := p.fds.filterMap fun f => f.x.lm.map fun _ => (codeA K (f.ad K), tabA K (f.ad K))
/-- the tables of the top -/
def Pg.kts (p : Pg) : Kts := p.gl.filterMap fun x => match x.2 with
  | .kdt t => some (x.1, t.map (·.1))
  | _ => none
def Pg.Γ (p : Pg) (K : PySem.W.Frag) : Glob := ⟨K, p.nm, fun c => He.ga K (p.cat c), fun f => p.fadr K f, fun g => He.fAd K (p.kat g), p.tb K⟩
def Pg.dfs (p : Pg) : List He5.DefA := p.fds.map Fd.df ++ (p.kds.map Kd.df ++ p.cls.filterMap fun c => c.ini.map ofD)
/-- a def that makes lambdas -/
def lmB (K Kt : PySem.W.Frag) (f : Fd) : Bool := match f.x.lm with
  | none => true
  | some q => decide (f.qual ++ ".<locals>." ++ "<lambda>" = q) && ((match K.lookup (f.ad K) with
    | some ⟨_, _, .func fd, _⟩ => (match fd.code with
      | .ref _ => true
      | _ => false)
    | _ => false) && (PySem.W.codeHdIn K (codeA K (f.ad K)) (tabA K (f.ad K)) && (match Kt.lookup (tabA K (f.ad K)) with
    | some ⟨.none, none, .fields vs, sl⟩ => vs.isEmpty && sl.isEmpty
    | _ => false)))
/-! what is told of the written part -/
mutual
def valB (K : PySem.W.Frag) : D → Value → Bool
  | .non, .none => true
  | .bl a, .bool b => a == b
  | .int i, .int j _ => decide (i = j)
  | .str x, .str y _ => decide (x = y)
  | .tup ds, .ref a => (match K.lookup a with
    | some ⟨.type c, dd, .seq its _, _⟩ => decide (c = "tuple") && dd.isNone && (decide (its.size ≤ LN) && (decide (ds.length ≤ LN) && valsB K ds its.toList))
    | _ => false)
  | _, _ => false
def valsB (K : PySem.W.Frag) : List D → List Value → Bool
  | [], [] => true
  | d :: ds, v :: vs => valB K d v && valsB K ds vs
  | _, _ => false
end
mutual
theorem valB_ok {Γ : Glob} : ∀ (d : D) (u : Value), valB Γ.K d u = true → ∃ v, RelV v u ∧ ∀ Φ, Rp Γ Φ v d
  | .non, u, h => by
    cases u <;> first | (cases h; done) | exact ⟨.non, rfl, fun _ => .non⟩
  | .bl a, u, h => by
    cases u <;> first | (cases h; done) | skip
    rename_i b
    have e : a = b := eq_of_beq h
    subst e
    exact ⟨.bl a, rfl, fun _ => .bl a⟩
  | .int i, u, h => by
    cases u <;> first | (cases h; done) | skip
    rename_i j t
    have e : i = j := of_decide_eq_true h
    subst e
    exact ⟨.int i, ⟨t, rfl⟩, fun _ => .int i⟩
  | .str x, u, h => by
    cases u <;> first | (cases h; done) | skip
    rename_i y t
    have e : x = y := of_decide_eq_true h
    subst e
    exact ⟨.str x, ⟨t, rfl⟩, fun _ => .str x⟩
  | .tup ds, u, h => by
    cases u <;> first | (cases h; done) | skip
    rename_i a
    unfold valB at h
    split at h
    · rename_i c dd its n sl hk
      simp only [Bool.and_eq_true, decide_eq_true_eq] at h
      obtain ⟨⟨rfl, hd⟩, h1, h2, h3⟩ := h
      obtain ⟨vs, r, q⟩ := valsB_ok ds its.toList h3
      exact ⟨.ref a, rfl, fun Φ => .tup (.inr ⟨_, its, n, hk, rfl, rfl, h1, r⟩) (q Φ) h2 (.inr ⟨_, hk, rfl, by simpa using hd⟩)⟩
    · cases h
  | .lst _, u, h => by cases u <;> cases h
  | .dct _ _, u, h => by cases u <;> cases h
  | .obj _ _ _, u, h => by cases u <;> cases h
  | .exn _ _ _, u, h => by cases u <;> cases h
  | .fn _, u, h => by cases u <;> cases h
  | .scr _, u, h => by cases u <;> cases h
  | .cell _, u, h => by cases u <;> cases h
theorem valsB_ok {Γ : Glob} : ∀ (ds : List D) (us : List Value), valsB Γ.K ds us = true → ∃ vs, Vals vs us ∧ ∀ Φ, Rps Γ Φ vs ds
  | [], [], _ => ⟨[], .nil, fun _ => .nil⟩
  | [], _ :: _, h => by cases h
  | _ :: _, [], h => by cases h
  | d :: ds, u :: us, h => by
    unfold valsB at h
    rw [Bool.and_eq_true] at h
    obtain ⟨v, r, q⟩ := valB_ok d u h.1
    obtain ⟨vs, rs, qs⟩ := valsB_ok ds us h.2
    exact ⟨v :: vs, .cons r rs, fun Φ => .cons (q Φ) (qs Φ)⟩
end
/-- a table of the top: its keys, its values -/
def strK (v : Value) : Option Str := match v with
  | .str x _ => some x
  | _ => none
def tblB (K : PySem.W.Frag) (a : Addr) (t : List (Str × D)) : Bool := (match K.lookup a with
  | some ⟨_, _, .dict es _, _⟩ => decide (es.toList.map (fun e => strK e.key) = t.map fun q => some q.1)
  | _ => false) && (decide (t.map (·.1)).Nodup && t.all fun q => match PySem.W.nsIn K a q.1 with
  | some (some u) => valB K q.2 u
  | _ => false)
theorem tlk_mem : ∀ {t : List (Str × D)} {z : Str} {d : D}, tlk t z = some d → (z, d) ∈ t
  | [], _, _, h => by cases h
  | (k, x) :: r, z, d, h => by
    unfold tlk at h
    split at h
    · rename_i e
      cases h
      rw [← e]
      exact List.mem_cons_self
    · exact List.mem_cons_of_mem _ (tlk_mem h)
theorem tlk_none : ∀ {t : List (Str × D)} {z : Str}, tlk t z = none → ∀ q ∈ t, q.1 ≠ z
  | [], _, _, q, hq => by cases hq
  | (k, x) :: r, z, h, q, hq => by
    unfold tlk at h
    split at h
    · cases h
    · rename_i e
      rcases List.mem_cons.mp hq with rfl | hq
      · exact e
      · exact tlk_none h q hq
theorem tblB_ok {Γ : Glob} {w : World} {a : Addr} {t : List (Str × D)} (h : tblB Γ.K a t = true) (hk : ∃ es n, KDict Γ.K w a es n) : KTab Γ w a t := by
  unfold tblB at h
  simp only [Bool.and_eq_true, decide_eq_true_eq] at h
  obtain ⟨h1, h2, h3⟩ := h
  refine ⟨hk, fun z d e => ?_, fun z e => ?_⟩
  · have := List.all_eq_true.mp h3 (z, d) (tlk_mem e)
    dsimp only at this
    split at this
    · rename_i u hu
      obtain ⟨v, r, q⟩ := valB_ok (Γ := Γ) d u this
      exact ⟨u, v, hu, r, q⟩
    · cases this
  · obtain ⟨es, n, D0⟩ := hk
    rw [D0.at_] at h1
    dsimp only at h1
    have h1 := of_decide_eq_true h1
    have no : ∀ e0 ∈ es.toList, e0.key.isStr z = false := fun e0 he => by
      have hm : strK e0.key ∈ es.toList.map (fun e => strK e.key) := List.mem_map.mpr ⟨e0, he, rfl⟩
      rw [h1] at hm
      obtain ⟨q, hq, e1⟩ := List.mem_map.mp hm
      have ne := tlk_none e q hq
      cases hk : e0.key <;> first | rfl | skip
      rename_i x0 t0
      rw [hk] at e1
      have e2 : q.1 = x0 := Option.some.inj e1
      show (x0 == z) = false
      rw [← e2]
      exact beq_false_of_ne ne
    have nr : es.toList.any (·.refKey) = false := by
      rw [List.any_eq_false]
      intro e0 he
      have hm : strK e0.key ∈ es.toList.map (fun e => strK e.key) := List.mem_map.mpr ⟨e0, he, rfl⟩
      rw [h1] at hm
      obtain ⟨q, hq, e1⟩ := List.mem_map.mp hm
      unfold strK at e1
      unfold DictEntry.refKey
      split at e1
      · rename_i hk; rw [hk]; simp
      · cases e1
    have nf : es.toList.find? (·.key.isStr z) = none := by
      rw [List.find?_eq_none]
      intro e0 he
      rw [no e0 he]
      simp
    unfold PySem.W.nsIn
    rw [D0.at_]
    dsimp only
    rw [nf]
    dsimp only
    rw [nr]
    rfl
/-- a global name -/
def Pg.glB (p : Pg) (K : PySem.W.Frag) (x : Str × GR) : Bool := match x.2 with
  | .fn f => decide (p.fat f = (x.1, none, false)) && ((He.Fa.glo x.1).ok K && PySem.W.keepIn K (.ref (He.ga K x.1)))
  | .cls c => decide (p.cat c = x.1) && (He.Fa.glo x.1).ok K
  | .val d => (match PySem.W.nsIn K mainGlobals x.1 with
    | some (some u) => valB K d u
    | _ => false)
  | .free => (He.Fa.free x.1).ok K
  | .ctc g => decide (p.kat g = (x.1, none)) && ((He.Fa.glo x.1).ok K && PySem.W.keepIn K (.ref (He.ga K x.1)))
  | .kdt t => (He.Fa.glo x.1).ok K && tblB K (He.ga K x.1) t
/-- an error's class: what isinstance asks -/
def excB (K : PySem.W.Frag) (C : Addr) : Bool := (PySem.W.clsIn K C).isSome && (He.eqO (PySem.W.findIn K (.ref C) "__getattribute__") (some (some (.builtin "BaseException.__getattribute__"))) && (He.eqO (PySem.W.findIn K (.ref C) "__getattr__") (some none) && (PySem.W.hasDictIn K C && (He.eqO (PySem.W.findIn K (.ref C) "__class__") (some (some (.builtin "object.__class__"))) && (He.eqO (PySem.W.specialIn K (.builtin "object.__class__") "__get__") (some (some (.builtin "getset_descriptor.__get__"))) && (decide (PySem.W.takesIn K (.builtin "object.__class__") = some true) && (decide (PySem.W.mroIn K C (.type "object") = some true) && decide (PySem.W.subIn K (.ref C) (.type "BaseException") = some true))))))))
theorem excB_ok {K : PySem.W.Frag} {C : Addr} (h : excB K C = true) : ExcK K C := by
  unfold excB at h
  simp only [Bool.and_eq_true, decide_eq_true_eq] at h
  obtain ⟨h1, h2, h3, h4, h5, h6, h7, h8, h9⟩ := h
  exact ⟨h1, He.eqO_ok h2, He.eqO_ok h3, h9, h4, He.eqO_ok h5, He.eqO_ok h6, h7, h8⟩
def Pg.pairB (p : Pg) (K : PySem.W.Frag) (c : Cd) : Bool := (List.range p.cls.length).all fun j => match p.cls[j]? with
  | some t => decide (t.i.kind < 2) || (decide (PySem.W.kitOne K (.ref (He.ga K c.nm)) (.ref (He.ga K t.nm)) = some (decide (j ∈ c.i.mro))) && decide (PySem.W.exmOne K (.ref (He.ga K c.nm)) (.ref (He.ga K t.nm)) = some (decide (j ∈ c.i.mro))))
  | none => true
/-- the class object of an error -/
def oexB (K : PySem.W.Frag) (C : Addr) : Bool := (match K.lookup C with
  | some ⟨.type t, _, .cls cd, sl⟩ => (match cd.mro, sl.toList with
    | .ref C' :: bm, [_, _, _, _, some (.builtin n), _] => decide (t = "type") && (decide (C' = C) && (decide (n = "ValueError.__new__") && (!cd.hasDel && (cd.hasDict && PySem.HandSPX.refsVE bm))))
    | _, _ => false)
  | _ => false) && (He.eqO (PySem.W.findIn K (.ref C) "__setattr__") (some (some (.builtin "object.__setattr__"))) && (decide (PySem.W.subIn K (.ref C) (.type "BaseException") = some true) && (decide (PySem.W.typeIn K (.ref C) = some (.type "type")) && PySem.W.keepIn K (.ref C))))
theorem oexB_ok {K : PySem.W.Frag} {C : Addr} (h : oexB K C = true) : OexC K C := by
  unfold oexB at h
  simp only [Bool.and_eq_true, decide_eq_true_eq] at h
  obtain ⟨h0, h1, h2, h3, h4⟩ := h
  refine ⟨?_, He.eqO_ok h1, h2, h3, h4⟩
  split at h0
  · rename_i t dd cd sl hk
    split at h0
    · rename_i C' bm k0 k1 k2 k3 n k5 hm hs
      simp only [Bool.and_eq_true, decide_eq_true_eq, Bool.not_eq_true'] at h0
      obtain ⟨rfl, rfl, rfl, hdel, hdict, hve⟩ := h0
      obtain ⟨nm, bs, mro, ns, qn, hd, sn, sub, ab, col, del⟩ := cd
      dsimp only at hm hdel hdict
      subst hm hdel hdict
      have hsl : sl = #[k0, k1, k2, k3, some (.builtin "ValueError.__new__"), k5] := by
        obtain ⟨l⟩ := sl
        simp only at hs
        rw [hs]
      subst hsl
      exact ⟨nm, qn, ns, bs, bm, sn, sub, ab, col, dd, k0, k1, k2, k3, k5, hk, hve⟩
    · cases h0
  · cases h0
/-! classes whose things are made -/
def isaB (p : Pg) (K : PySem.W.Frag) (C : Addr) (i : ClsI) : Bool := (["int", "bool", "str", "list", "tuple", "dict"].all fun n => decide (PySem.W.kitOne K (.ref C) (.type n) = some false)) && (List.range p.cls.length).all fun j => match p.cls[j]? with
  | some t => decide (PySem.W.kitOne K (.ref C) (.ref (He.ga K t.nm)) = some (decide (j ∈ i.mro)))
  | none => true
def pmB (p : Pg) (n f : Nat) (pm : List Nat) : Bool := match p.pn f with
  | some ps => pmOk n [] ps pm
  | none => false
def eqB (p : Pg) (K : PySem.W.Frag) (C : Addr) (f : Nat) : Bool := He.eqO (PySem.W.findIn K (.ref C) "__eq__") (some (some (.ref (p.fadr K f)))) && (PySem.W.isFn K (.ref (p.fadr K f)) && ((baseNames.all fun n => PySem.W.notFirst K C (.type n)) && ((p.cls.all fun t => decide (¬ t.i.kind < 2) || PySem.W.notFirst K C (.ref (He.ga K t.nm))) && (He.eqO (PySem.W.findIn K (.ref C) "__ne__") (some (some (.builtin "object.__ne__"))) && (decide (PySem.W.mroIn K C (.type "object") = some true) && pmB p 2 f [0, 1])))))
def strB (p : Pg) (K : PySem.W.Frag) (C : Addr) (f : Nat) : Bool := He.eqO (PySem.W.findIn K (.ref C) "__str__") (some (some (.ref (p.fadr K f)))) && (PySem.W.isFn K (.ref (p.fadr K f)) && pmB p 1 f [0])
def metB (p : Pg) (K : PySem.W.Frag) (C : Addr) (q : Nat × Nat) : Bool := He.eqO (PySem.W.findIn K (.ref C) (p.nm q.1)) (some (some (.ref (p.fadr K q.2)))) && (PySem.W.isFn K (.ref (p.fadr K q.2)) && (PySem.W.keepIn K (.ref (p.fadr K q.2)) && (decide (q.1 < p.nms.length) && decide (p.nm q.1 ≠ Str.empty))))
def mkB (p : Pg) (K : PySem.W.Frag) (C : Addr) (i : ClsI) : Bool := match i.init with
  | some f => PySem.W.makesIn K C && (He.eqO (PySem.W.findIn K (.ref C) "__init__") (some (some (.ref (p.fadr K f)))) && (PySem.W.isFn K (.ref (p.fadr K f)) && PySem.W.keepIn K (.ref C)))
  | none => true
def optB (o : Option Nat) (f : Nat → Bool) : Bool := match o with
  | some x => f x
  | none => true
def Pg.insB (p : Pg) (K : PySem.W.Frag) (c : Cd) : Bool := (He.Fa.cls c.nm).ok K && (mkB p K (He.ga K c.nm) c.i && ((c.i.flds.all fun f => (He.Fa.noat c.nm (p.nm f)).ok K) && (He.eqO (PySem.W.findIn K (.ref (He.ga K c.nm)) "__class__") (some (some (.builtin "object.__class__"))) && (He.eqO (PySem.W.specialIn K (.builtin "object.__class__") "__get__") (some (some (.builtin "getset_descriptor.__get__"))) && (decide (PySem.W.takesIn K (.builtin "object.__class__") = some true) && (decide (PySem.W.mroIn K (He.ga K c.nm) (.type "object") = some true) &&
  (isaB p K (He.ga K c.nm) c.i && ((c.i.meths.all fun q => metB p K (He.ga K c.nm) q) && (optB (c.i.meths.lookup mEq) (eqB p K (He.ga K c.nm)) && optB (c.i.meths.lookup mStr) (strB p K (He.ga K c.nm)))))))))))
def Pg.smB (p : Pg) (K : PySem.W.Frag) (q : Nat × Str × Nat) : Bool := PySem.W.readsIn K (He.ga K (p.cat q.1)) (.type "type") && (He.eqO (PySem.W.specialIn K (.ref (He.ga K (p.cat q.1))) "__getattribute__") (some (some (.builtin "type.__getattribute__"))) && (He5.wrapB K (He.ga K (p.cat q.1)) "staticmethod" "staticmethod.__get__" q.2.1 && decide (p.fadr K q.2.2 = He5.wf K (He.ga K (p.cat q.1)) "staticmethod" q.2.1)))
/-- a class: no plain value is one of it; an error's parts -/
def Pg.clB (p : Pg) (K : PySem.W.Frag) (c : Cd) : Bool := (baseNames.all fun n => decide (PySem.W.kitOne K (.type n) (.ref (He.ga K c.nm)) = some false)) && (decide (c.i.kind = 3) || ((decide (c.i.kind < 2) && p.insB K c) || (decide (c.i.kind = 2) && (oexB K (He.ga K c.nm) && ((He.Fa.meth c.nm "__init__").ok K && (decide (PySem.W.typeIn K (.ref (He.ma K (He.ga K c.nm) "__init__")) = some (.type "function")) && ((c.i.flds.all fun f => (He.Fa.noat c.nm (p.nm f)).ok K) && (excB K (He.ga K c.nm) && p.pairB K c))))))))
def Pg.xf (p : Pg) (K Kt : PySem.W.Frag) : Bool := p.gl.all (p.glB K) && (p.cls.all (p.clB K) && (p.fds.all (lmB K Kt) && (p.sms.all (p.smB K) && (p.tb K).all fun a => (p.tb K).all fun b => decide (a.1 ≠ b.1) || decide (a.2 = b.2))))
/-- what is looked at in the text alone -/
def Pg.ok (p : Pg) (fuel : Nat) : Bool := (p.fds.all fun f => f.x.ok p.gd p.gl p.nm fuel && decide (parOf f.params = some f.x.ps)) && ((p.kds.all fun f => f.x.ok p.gd p.gl p.nm fuel && decide (parOf f.params = some [f.x.a])) && (decide p.nms.Nodup && p.cls.all fun c => (c.i.flds.all fun f => decide (f < p.nms.length) && decide (p.nm f ≠ Str.empty)) && match c.ini with
  | some d => decide (d.at_ = (c.nm, some ("__init__" : Str))) && (d.dfl.isEmpty && (d.kwd.isEmpty && initOk p.nm c.i.flds d.params d.scope d.body))
  | none => decide (c.i.kind ≠ 2)))
section
variable {p : Pg} {K Kt : PySem.W.Frag} {h : Heap} {mg : Str → Option Value} {P : Program} {w : World} {base : Heap}
theorem Pg.wo (X : K.In h) (G : h.Ns mainGlobals mg) (c : p.xf K Kt = true) (ck : p.kts.map (fun t => He.dicW K (He.ga K t.1)) = p.kts.map fun t => some (He.keysIn w.params t.2)) : Wo (p.Γ K) ⟨P, w, mg, base⟩ p.gl := by
  unfold Pg.xf at c
  rw [Bool.and_eq_true] at c
  refine ⟨fun x hx => ?_⟩
  have h := List.all_eq_true.mp c.1 x hx
  obtain ⟨x, g⟩ := x
  unfold Pg.glB at h
  cases g with
  | fn f =>
    simp only [Bool.and_eq_true, decide_eq_true_eq] at h
    obtain ⟨h1, h2, h3⟩ := h
    have e : (p.Γ K).fad f = He.ga K x := Pg.fadr_glo h1
    show mg x = some (.ref ((p.Γ K).fad f)) ∧ PySem.W.keepIn K (.ref ((p.Γ K).fad f)) = true
    rw [e]
    exact ⟨He.glo_ok X G h2, h3⟩
  | cls c =>
    simp only [Bool.and_eq_true, decide_eq_true_eq] at h
    obtain ⟨h1, h2⟩ := h
    show mg x = some (.ref (He.ga K (p.cat c)))
    rw [h1]
    exact He.glo_ok X G h2
  | val d =>
    dsimp only at h
    split at h
    · rename_i u hu
      obtain ⟨v, r, q⟩ := valB_ok (Γ := p.Γ K) d u h
      exact ⟨v, u, PySem.W.mg_of X G hu, r, q⟩
    · cases h
  | free => exact He.free_ok X G h
  | ctc g =>
    simp only [Bool.and_eq_true, decide_eq_true_eq] at h
    obtain ⟨h1, h2, h3⟩ := h
    have e : (p.Γ K).cad g = He.ga K x := by
      show He.fAd K (p.kat g) = _
      rw [h1]; rfl
    show mg x = some (.ref ((p.Γ K).cad g)) ∧ PySem.W.keepIn K (.ref ((p.Γ K).cad g)) = true
    rw [e]
    exact ⟨He.glo_ok X G h2, h3⟩
  | kdt t =>
    rw [Bool.and_eq_true] at h
    have hm : (x, t.map (·.1)) ∈ p.kts := List.mem_filterMap.mpr ⟨(x, .kdt t), hx, rfl⟩
    exact ⟨He.ga K x, He.glo_ok X G h.1, tblB_ok (Γ := p.Γ K) (w := w) h.2 (tab_keys ck hm)⟩
theorem SaysD_mem {fa : List He.Fa} {fn : List He5.DefA} (c : He5.SaysA fa fn K) {d : He5.DefA} (hd : d ∈ fn) : ∃ fd, FunD K d.name d.qual d.params d.body d.scope (d.dvs K) (d.kws K) (d.at_ K) fd := by
  obtain ⟨i, hi⟩ := List.mem_iff_getElem?.mp hd
  exact c.def_ i hi
/-- where the tables are -/
theorem Pg.cs_ok (X : AllIn Kt h) (hK : K = cutT Kt) (cx : p.xf K Kt = true) : ∀ q ∈ p.cs K, h.get? q.2 = some tabO ∧ K.lookup q.2 = none ∧ PySem.W.CodeHd h q.1 q.2 := by
  unfold Pg.xf at cx
  simp only [Bool.and_eq_true] at cx
  intro q hq
  obtain ⟨f, hf, h1⟩ := List.mem_filterMap.mp hq
  obtain ⟨z, h2, h3⟩ := Option.map_eq_some_iff.mp h1
  subst h3
  have hb := List.all_eq_true.mp cx.2.2.1 f hf
  unfold lmB at hb
  rw [h2] at hb
  simp only [Bool.and_eq_true, decide_eq_true_eq] at hb
  obtain ⟨_, _, h4, h5⟩ := hb
  have ht : h.get? (tabA K (f.ad K)) = some tabO := by
    split at h5
    · rename_i vs sl hl
      simp only [Bool.and_eq_true] at h5
      have e1 : vs = #[] := by simpa using h5.1
      have e2 : sl = #[] := by simpa using h5.2
      subst e1 e2
      exact X.in_ _ _ hl
    · cases h5
  refine ⟨ht, ?_, PySem.W.codeHd_of_K (by rw [hK]; exact X.cut.in_) h4⟩
  rw [hK]
  exact cut_none X (by rw [← hK]; exact ht) rfl
theorem Pg.defs {fuel : Nat} (c : He5.SaysA [] p.dfs K) (cx : p.xf K Kt = true) (hok : p.ok fuel = true) (TB : ∀ q ∈ p.cs K, LamX.TabB base mg q.1 q.2) : ∀ f ps, p.pn f = some ps → ∃ (x : Dx) (fuel : Nat) (nm0 qual : Str) (params : Arguments) (fd : FuncData), x.ps = ps ∧ p.T.fn f = some x.d ∧ x.ok p.gd p.gl p.nm fuel = true ∧ FunD K nm0 qual params x.body x.scope [] [] ((p.Γ K).fad f) fd ∧ parOf params = some ps ∧
    ∀ q, x.lm = some q → LmD (p.Γ K) ⟨P, w, mg, base⟩ qual fd.code q := by
  intro f ps hf
  unfold Pg.pn at hf
  obtain ⟨x, h1, h2⟩ := Option.map_eq_some_iff.mp hf
  unfold Pg.ok at hok
  rw [Bool.and_eq_true] at hok
  have hx := List.mem_of_getElem? h1
  have h3 := List.all_eq_true.mp hok.1 x hx
  rw [Bool.and_eq_true, decide_eq_true_eq] at h3
  obtain ⟨fd, F⟩ := SaysD_mem c (d := x.df) (List.mem_append_left _ (List.mem_map.mpr ⟨x, hx, rfl⟩))
  have e : (p.Γ K).fad f = x.ad K := Pg.fadr_at h1
  have F' : FunD K x.name x.qual x.params x.x.body x.x.scope [] [] ((p.Γ K).fad f) fd := by
    rw [e]
    exact F
  refine ⟨x.x, fuel, x.name, x.qual, x.params, fd, h2, ?_, h3.1, F', by rw [h3.2, h2], fun q hq => ?_⟩
  · show (p.fds[f]?).map (·.x.d) = _
    rw [h1]; rfl
  · unfold Pg.xf at cx
    simp only [Bool.and_eq_true] at cx
    have hb := List.all_eq_true.mp cx.2.2.1 x hx
    unfold lmB at hb
    rw [hq] at hb
    simp only [Bool.and_eq_true, decide_eq_true_eq] at hb
    obtain ⟨g1, g2, _, _⟩ := hb
    obtain ⟨oc, od, osl, lk⟩ := fun_look F'
    rw [e] at lk
    have hc : fd.code = .ref (codeA K (x.ad K)) := by
      rw [lk] at g2
      unfold codeA
      rw [lk]
      dsimp only at g2 ⊢
      split at g2
      · rename_i b hb2
        rw [hb2]
      · cases g2
    refine ⟨g1, _, tabA K (x.ad K), hc, TB (codeA K (x.ad K), tabA K (x.ad K)) (List.mem_filterMap.mpr ⟨x, hx, by rw [hq]; rfl⟩), ?_, fun a ha hp => ?_⟩
    · exact List.mem_filterMap.mpr ⟨x, hx, by rw [hq]; rfl⟩
    · have hm : (tabA K (x.ad K), q) ∈ p.tb K := List.mem_filterMap.mpr ⟨x, hx, by rw [hq]; rfl⟩
      have := List.all_eq_true.mp (List.all_eq_true.mp cx.2.2.2.2 a ha) _ hm
      rw [Bool.or_eq_true, decide_eq_true_eq, decide_eq_true_eq] at this
      exact this.resolve_left (by rw [hp]; simp)
theorem Pg.kdefs {fuel : Nat} (c : He5.SaysA [] p.dfs K) (hok : p.ok fuel = true) : ∀ g t, p.T.ct g = some t → ∃ (x : Kx) (fuel : Nat) (nm0 qual : Str) (params : Arguments) (fd : FuncData), x.t = t ∧ x.ok p.gd p.gl p.nm fuel = true ∧ FunD K nm0 qual params x.body x.scope [] [] ((p.Γ K).cad g) fd ∧ parOf params = some [x.a] := by
  intro g t hg
  obtain ⟨x, h1, h2⟩ := Option.map_eq_some_iff.mp (show (p.kds[g]?).map (·.x.t) = some t from hg)
  unfold Pg.ok at hok
  rw [Bool.and_eq_true, Bool.and_eq_true] at hok
  have hx := List.mem_of_getElem? h1
  have h3 := List.all_eq_true.mp hok.2.1 x hx
  rw [Bool.and_eq_true, decide_eq_true_eq] at h3
  obtain ⟨fd, F⟩ := SaysD_mem c (d := x.df) (List.mem_append_right _ (List.mem_append_left _ (List.mem_map.mpr ⟨x, hx, rfl⟩)))
  have e : (p.Γ K).cad g = He.fAd K x.at_ := by
    show He.fAd K (p.kat g) = _
    unfold Pg.kat
    rw [h1]
  exact ⟨x.x, fuel, x.name, x.qual, x.params, fd, h2, h3.1, by rw [e]; exact F, h3.2⟩
theorem Pg.nm_inj (hnd : p.nms.Nodup) {f : Nat} (r1 : f < p.nms.length) (r2 : p.nm f ≠ Str.empty) (n : Nat) (hn' : p.nm n = p.nm f) : n = f := by
  have e1 : p.nms[f]? = some (p.nm f) := by
    unfold Pg.nm
    rw [List.getD_eq_getElem?_getD, List.getElem?_eq_getElem r1]
    rfl
  by_cases hlt : n < p.nms.length
  · have e2 : p.nms[n]? = some (p.nm n) := by
      unfold Pg.nm
      rw [List.getD_eq_getElem?_getD, List.getElem?_eq_getElem hlt]
      rfl
    rw [List.getElem?_eq_getElem hlt] at e2
    rw [List.getElem?_eq_getElem r1] at e1
    exact (List.getElem_inj hnd).mp (Option.some.inj (e2.trans ((congrArg some hn').trans e1.symm)))
  · exfalso
    apply r2
    rw [← hn']
    unfold Pg.nm
    rw [List.getD_eq_getElem?_getD, List.getElem?_eq_none (by omega)]
    rfl
theorem Pg.ins_of (cx : p.xf K Kt = true) {k : Nat} {i : ClsI} (e : p.T.cl k = some i) (hk : i.kind < 2) : ∃ x : Cd, p.cls[k]? = some x ∧ x.i = i ∧ (p.Γ K).cls k = He.ga K x.nm ∧ p.insB K x = true := by
  obtain ⟨x, h1, h2⟩ := Option.map_eq_some_iff.mp (show (p.cls[k]?).map (·.i) = some i from e)
  refine ⟨x, h1, h2, ?_, ?_⟩
  · show He.ga K (p.cat k) = _
    unfold Pg.cat
    rw [h1]
  · unfold Pg.xf at cx
    rw [Bool.and_eq_true, Bool.and_eq_true] at cx
    have h := List.all_eq_true.mp cx.2.1 _ (List.mem_of_getElem? h1)
    unfold Pg.clB at h
    simp only [Bool.and_eq_true, Bool.or_eq_true, decide_eq_true_eq] at h
    rw [h2] at h
    rcases h.2 with z | ⟨_, z⟩ | ⟨z, _⟩
    · omega
    · exact z
    · omega
theorem optB_ok {o : Option Nat} {f : Nat → Bool} (h : optB o f = true) {x : Nat} (e : o = some x) : f x = true := by
  subst e; exact h
theorem pmB_ok {n f : Nat} {pm : List Nat} (h : pmB p n f pm = true) : ∃ ps, p.pn f = some ps ∧ pmOk n [] ps pm = true := by
  unfold pmB at h
  split at h
  · exact ⟨_, by assumption, h⟩
  · cases h
theorem mem_lookN {m f : Nat} : ∀ {xs : List (Nat × Nat)}, xs.lookup m = some f → (m, f) ∈ xs
  | [], h => by cases h
  | (a, b) :: xs, h => by
    rw [List.lookup_cons] at h
    cases q : (m == a) with
    | true =>
      rw [q] at h
      cases h
      rw [beq_iff_eq.mp q]
      exact List.mem_cons_self
    | false =>
      rw [q] at h
      exact List.mem_cons_of_mem _ (mem_lookN h)
theorem Pg.clsF (cx : p.xf K Kt = true) (hnd : p.nms.Nodup) (hm : ∀ c ∈ p.cls, c.i.meths ≠ [] → c.i.kind < 2) : ClsF (p.Γ K) p.T p.gd := by
  have kind : ∀ {c : Nat} {i : ClsI} {m f : Nat}, p.T.cl c = some i → i.meths.lookup m = some f → i.kind < 2 := fun {c i m f} e hl => by
    obtain ⟨x, h1, h2⟩ := Option.map_eq_some_iff.mp (show (p.cls[c]?).map (·.i) = some i from e)
    have := hm x (List.mem_of_getElem? h1) (by rw [h2]; intro z; rw [z] at hl; cases hl)
    rw [h2] at this
    exact this
  refine ⟨fun c i f e hk hi => ?_, fun c i m f e hl => ?_, fun c i f e hl => ?_, fun c i f e hl => ?_, fun q hq => ?_⟩
  · obtain ⟨x, h1, h2, h3, h⟩ := Pg.ins_of cx e hk
    unfold Pg.insB at h
    simp only [Bool.and_eq_true] at h
    obtain ⟨_, q, _⟩ := h
    unfold mkB at q
    rw [h2, hi] at q
    simp only [Bool.and_eq_true] at q
    obtain ⟨q1, q2, q3, q4⟩ := q
    rw [h3]
    exact ⟨q1, He.eqO_ok q2, q3, q4⟩
  · obtain ⟨x, h1, h2, h3, h⟩ := Pg.ins_of cx e (kind e hl)
    unfold Pg.insB at h
    simp only [Bool.and_eq_true] at h
    obtain ⟨g1, _, _, _, _, _, _, _, q, _⟩ := h
    have hmem : (m, f) ∈ x.i.meths := by rw [h2]; exact mem_lookN hl
    have hq := List.all_eq_true.mp q _ hmem
    unfold metB at hq
    simp only [Bool.and_eq_true, decide_eq_true_eq] at hq
    obtain ⟨q1, q2, q3, q4, q5⟩ := hq
    refine ⟨⟨by rw [h3]; exact He.cls_ok g1, by rw [h3]; exact ⟨He.eqO_ok q1, q2, q3⟩, fun n hn => Pg.nm_inj hnd q4 q5 n hn⟩, ?_⟩
    exact List.mem_flatMap.mpr ⟨x, List.mem_of_getElem? h1, hmem⟩
  · obtain ⟨x, h1, h2, h3, h⟩ := Pg.ins_of cx e (kind e hl)
    unfold Pg.insB at h
    simp only [Bool.and_eq_true] at h
    obtain ⟨_, _, _, _, _, _, _, _, _, q, _⟩ := h
    have hq := optB_ok q (by rw [h2]; exact hl)
    unfold eqB at hq
    simp only [Bool.and_eq_true, decide_eq_true_eq] at hq
    obtain ⟨q1, q2, q3, q4, q5, q6, q7⟩ := hq
    rw [h3]
    refine ⟨⟨He.eqO_ok q1, q2, fun n hn => List.all_eq_true.mp q3 n hn, fun t j ht hj => ?_, He.eqO_ok q5, q6⟩, pmB_ok q7⟩
    obtain ⟨y, y1, y2⟩ := Option.map_eq_some_iff.mp (show (p.cls[t]?).map (·.i) = some j from ht)
    have := List.all_eq_true.mp q4 y (List.mem_of_getElem? y1)
    rw [Bool.or_eq_true, decide_eq_true_eq, y2] at this
    have e3 : (p.Γ K).cls t = He.ga K y.nm := by
      show He.ga K (p.cat t) = _
      unfold Pg.cat
      rw [y1]
    rw [e3]
    exact this.resolve_left fun z => z hj
  · obtain ⟨x, h1, h2, h3, h⟩ := Pg.ins_of cx e (kind e hl)
    unfold Pg.insB at h
    simp only [Bool.and_eq_true] at h
    obtain ⟨_, _, _, _, _, _, _, _, _, _, q⟩ := h
    have hq := optB_ok q (by rw [h2]; exact hl)
    unfold strB at hq
    simp only [Bool.and_eq_true] at hq
    obtain ⟨q1, q2, q3⟩ := hq
    rw [h3]
    exact ⟨⟨He.eqO_ok q1, q2⟩, pmB_ok q3⟩
  · unfold Pg.xf at cx
    simp only [Bool.and_eq_true] at cx
    have h := List.all_eq_true.mp cx.2.2.2.1 q hq
    unfold Pg.smB at h
    simp only [Bool.and_eq_true, decide_eq_true_eq] at h
    obtain ⟨q1, q2, q3, q4⟩ := h
    obtain ⟨w1, rest, w2⟩ := He5.wrapB_ok q3
    exact ⟨⟨q1, He.eqO_ok q2⟩, _, rest, w1, by
      show PySem.W.recIn K _ _ = some (.ref (p.fadr K q.2.2) :: rest)
      rw [q4]; exact w2⟩
theorem Pg.cl_ok {fuel : Nat} (c : He5.SaysA [] p.dfs K) (cx : p.xf K Kt = true) (hok : p.ok fuel = true) : ClOk (p.Γ K) p.T := by
  unfold Pg.xf at cx
  rw [Bool.and_eq_true, Bool.and_eq_true] at cx
  unfold Pg.ok at hok
  rw [Bool.and_eq_true, Bool.and_eq_true, Bool.and_eq_true, decide_eq_true_eq] at hok
  have at_ : ∀ {k : Nat} {i : ClsI}, p.T.cl k = some i → ∃ x : Cd, p.cls[k]? = some x ∧ x.i = i ∧ (p.Γ K).cls k = He.ga K x.nm := fun {k i} e => by
    obtain ⟨x, h1, h2⟩ := Option.map_eq_some_iff.mp (show (p.cls[k]?).map (·.i) = some i from e)
    refine ⟨x, h1, h2, ?_⟩
    show He.ga K (p.cat k) = _
    unfold Pg.cat
    rw [h1]
  have fact : ∀ {k : Nat} {x : Cd}, p.cls[k]? = some x → p.clB K x = true := fun e => List.all_eq_true.mp cx.2.1 _ (List.mem_of_getElem? e)
  refine ⟨fun k i e n hn => ?_, fun k i e hk => ?_, fun k i e hk => ?_, fun k i e hk => ?_, fun k i e hk => ?_⟩
  · obtain ⟨x, h1, h2, h3⟩ := at_ e
    have h := fact h1
    unfold Pg.clB at h
    rw [Bool.and_eq_true] at h
    rw [h3]
    exact of_decide_eq_true (List.all_eq_true.mp h.1 n hn)
  · obtain ⟨x, h1, h2, h3⟩ := at_ e
    have h := fact h1
    obtain ⟨y, g1, g2, g3, h⟩ := Pg.ins_of (by unfold Pg.xf; rw [Bool.and_eq_true, Bool.and_eq_true]; exact cx) e hk
    unfold Pg.insB at h
    simp only [Bool.and_eq_true, decide_eq_true_eq] at h
    obtain ⟨q1, _, _, q4, q5, q6, q7, q8, _⟩ := h
    refine ⟨by rw [g3]; exact He.cls_ok q1, by rw [g3]; exact He.eqO_ok q4, He.eqO_ok q5, q6, by rw [g3]; exact q7, fun t b hb => ?_⟩
    unfold isaB at q8
    rw [Bool.and_eq_true] at q8
    rw [g3]
    have key : ∀ n, n ∈ ["int", "bool", "str", "list", "tuple", "dict"] → PySem.W.kitOne K (.ref (He.ga K y.nm)) (.type n) = some false := fun n hn => of_decide_eq_true (List.all_eq_true.mp q8.1 n hn)
    unfold tyC at hb
    rw [e] at hb
    cases t with
    | cls j =>
      have hb' : (if i.kind < 2 then (p.T.cl j).map fun _ => decide (j ∈ i.mro) else none) = some b := hb
      rw [if_pos hk] at hb'
      obtain ⟨z, z1, z2⟩ := Option.map_eq_some_iff.mp hb'
      obtain ⟨u, u1, u2, u3⟩ := at_ z1
      have hl := (List.getElem?_eq_some_iff.mp u1).1
      have := List.all_eq_true.mp q8.2 j (List.mem_range.mpr hl)
      rw [u1] at this
      have := of_decide_eq_true this
      show PySem.W.kitOne K _ (.ref ((p.Γ K).cls j)) = _
      rw [u3, this, g2, z2]
    | int => rw [show b = false by simpa [hk] using hb.symm]; exact key "int" (by simp)
    | bool => rw [show b = false by simpa [hk] using hb.symm]; exact key "bool" (by simp)
    | str => rw [show b = false by simpa [hk] using hb.symm]; exact key "str" (by simp)
    | list => rw [show b = false by simpa [hk] using hb.symm]; exact key "list" (by simp)
    | tuple => rw [show b = false by simpa [hk] using hb.symm]; exact key "tuple" (by simp)
    | dict => rw [show b = false by simpa [hk] using hb.symm]; exact key "dict" (by simp)
  · obtain ⟨x, h1, h2, h3⟩ := at_ e
    have h := fact h1
    unfold Pg.clB at h
    simp only [Bool.and_eq_true, Bool.or_eq_true, decide_eq_true_eq] at h
    have h' := (h.2.resolve_left (by rw [h2]; omega)).resolve_left (by rw [h2]; omega)
    obtain ⟨_, q1, q2, q3, q4, _⟩ := h'
    have hx := List.all_eq_true.mp hok.2.2.2 x (List.mem_of_getElem? h1)
    rw [Bool.and_eq_true] at hx
    replace hx := hx.2
    cases hi : x.ini with
    | none =>
      rw [hi] at hx
      have := of_decide_eq_true hx
      rw [h2] at this
      omega
    | some d =>
      rw [hi] at hx
      simp only [Bool.and_eq_true, decide_eq_true_eq] at hx
      obtain ⟨r1, r2, r3, r4⟩ := hx
      obtain ⟨fd, F⟩ := SaysD_mem c (d := ofD d) (List.mem_append_right _ (List.mem_append_right _ (List.mem_filterMap.mpr ⟨x, List.mem_of_getElem? h1, by rw [hi]; rfl⟩)))
      have e1 : (ofD d).dvs K = [] := by
        show d.dfl.map _ = []
        cases hd : d.dfl with
        | nil => rfl
        | cons => rw [hd] at r2; cases r2
      have e2 : (ofD d).kws K = [] := by
        show d.kwd.map _ = []
        cases hd : d.kwd with
        | nil => rfl
        | cons => rw [hd] at r3; cases r3
      rw [e1, e2] at F
      have F : FunD K d.name d.qual d.params d.body d.scope [] [] (He.fAd K d.at_) fd := F
      rw [r1] at F
      have hm := He.meth_ok q2
      refine ⟨by rw [h3]; exact oexB_ok q1, ⟨_, _, _, _, _, _, fd, by rw [h3]; exact hm.at_, q3, F, by rw [← h2]; exact r4⟩, fun f hf => ?_⟩
      rw [h3]
      rw [← h2] at hf
      exact He.noat_ok (List.all_eq_true.mp q4 f hf)
  · obtain ⟨x, h1, h2, h3⟩ := at_ e
    have h := fact h1
    unfold Pg.clB at h
    simp only [Bool.and_eq_true, Bool.or_eq_true, decide_eq_true_eq] at h
    have h' := (h.2.resolve_left (by rw [h2]; omega)).resolve_left (by rw [h2]; omega)
    obtain ⟨_, _, _, _, _, q5, q6⟩ := h'
    refine ⟨by rw [h3]; exact excB_ok q5, fun t j ht hj => ?_⟩
    obtain ⟨y, y1, y2, y3⟩ := at_ ht
    unfold Pg.pairB at q6
    have hl := (List.getElem?_eq_some_iff.mp y1).1
    have := List.all_eq_true.mp q6 t (List.mem_range.mpr hl)
    rw [y1] at this
    simp only [Bool.and_eq_true, Bool.or_eq_true, decide_eq_true_eq] at this
    rw [h3, y3, ← h2]
    exact this.resolve_left (by rw [y2]; exact hj)
  · obtain ⟨x, h1, h2, h3⟩ := at_ e
    have h := fact h1
    unfold Pg.clB at h
    simp only [Bool.and_eq_true, Bool.or_eq_true, decide_eq_true_eq] at h
    have q4 : (x.i.flds.all fun f => (He.Fa.noat x.nm (p.nm f)).ok K) = true := by
      rcases h.2.resolve_left (by rw [h2]; omega) with ⟨_, z⟩ | ⟨_, _, _, _, z, _⟩
      · unfold Pg.insB at z
        simp only [Bool.and_eq_true] at z
        exact z.2.2.1
      · exact z
    have hx := List.all_eq_true.mp hok.2.2.2 x (List.mem_of_getElem? h1)
    rw [Bool.and_eq_true] at hx
    refine ⟨fun f hf => ?_, fun f hf n hn => ?_⟩
    · rw [h3]
      rw [← h2] at hf
      exact He.noat_ok (List.all_eq_true.mp q4 f hf)
    · rw [← h2] at hf
      have := List.all_eq_true.mp hx.1 f hf
      rw [Bool.and_eq_true, decide_eq_true_eq, decide_eq_true_eq] at this
      exact Pg.nm_inj hok.2.2.1 this.1 this.2 n hn
end
end KP
end

section
set_option maxRecDepth 100000
set_option maxHeartbeats 4000000
/-! KP24: from the small program's answer to the law. -/
namespace KP
open PySem PySem.Spec PyProof.Rows L2
/-- the law's small program, called on a script, answers True -/
def Says (p : Pg) (N f : Nat) (n : Nat) : Prop := ∀ ns : List Int, ns.length ≤ n → ∃ μ, callF p.T N f [.scr ns] [] = .ok (.bl true) μ
theorem script_sp {p : Pg} {K : PySem.W.Frag} {N f n : Nat} (h : Says p N f n) (H : Hp) (a : Addr) (ns : List Int) (hl : ns.length ≤ n) (ht : ∀ q ∈ p.cs K, H q.2 = some (.tbl #[])) (hS : SqL K H a (ns.map V.int)) : spI (p.Γ K) (callF p.T N f) [.ref a] H (fun v _ => v = .bl true) fun _ _ _ => False := by
  obtain ⟨μ, e⟩ := h ns hl
  -- of the heap only the script is taken for what never changes
  refine ⟨⟨fun b => match H b with
    | some (.tbl _) => none
    | u => u, [], []⟩, [], [.scr ns], ⟨fun b u q => ?_, rfl, by simp, fun n a m e1 _ => ?_, fun q hq => ?_, fun b ps q => ?_, fun q hq => ?_, fun q hq => ?_⟩, ⟨.val (.scr ?_), trivial⟩, ?_⟩
  · dsimp only at q
    split at q
    · cases q
    · exact q
  · have : ([] : List Addr)[n]? = some a := e1
    simp at this
  · have : q ∈ ([] : List (Addr × HO)) := hq
    simp at this
  · dsimp only at q
    split at q
    · cases q
    · rename_i hn
      exact hn ps q
  · have : q ∈ ([] : List (Addr × HO)) := hq
    simp at this
  · obtain ⟨f, hf, h1⟩ := List.mem_filterMap.mp (show q ∈ p.tb K from hq)
    obtain ⟨z, h2, h3⟩ := Option.map_eq_some_iff.mp h1
    subst h3
    exact LamX.TabS.nil (ht (codeA K (f.ad K), tabA K (f.ad K)) (List.mem_filterMap.mpr ⟨f, hf, by rw [h2]; rfl⟩))
  · rcases hS with (h | ⟨o, h⟩) | h
    · exact .inl (.inl (by dsimp only; rw [h]))
    · exact .inl (.inr ⟨o, by dsimp only; rw [h]⟩)
    · exact .inr h
  · rw [e]
    exact fun w' v H' _ _ r => r.bl_
theorem one_bind {fd : FuncData} {x : Str} (h : FdN fd [x]) (s : Shared) (u : Value) : BindsTo s fd ⟨[u], []⟩ [(x, u)] := by
  have := bind_pm (ks := []) (pm := [0]) (us := [u]) (ws := []) (vals := [u]) h (by unfold pmOk pmOf; simp) rfl rfl s
  exact this
theorem law_pg {l : PySem.W.OpenLaw} {n N f fuel hops : Nat} {q : Program} {loose : List Str} {XP : (Str → Option Value) → Heap → Prop} {d : DefRec} {x : Str} {p : Pg}
    (hn : l.most = some n) (hn2 : n ≤ sizeLine) (hdf : d.params.defaults = []) (hr : Room (lvl N) callerA) (hok : p.ok fuel = true) (hd : p.fat f = (d.name, none, false)) (hg : (d.name, GR.fn f) ∈ p.gl) (hps : p.pn f = some [x])
    (hm : ∀ c ∈ p.cls, c.i.meths ≠ [] → c.i.kind < 2) (hlaw : Says p N f n) :
    PySem.W.WalkO q loose XP (hookX hops p.xf [] p.dfs p.kts).says l.row.toRowW d [] (fun f vs => PySem.call f vs) := by
  refine walk_G (x := x) hn hn2 hdf hr fun w mg fa h Y G hmg => ?_
  obtain ⟨Kt, KA, cx, cs, ck⟩ := Y
  generalize hK : cutT Kt = K at cx cs ck
  have KX : K.In h := by rw [← hK]; exact KA.cut.in_
  have hC := Pg.cl_ok (p := p) cs cx hok
  have hcs := Pg.cs_ok (p := p) KA hK.symm cx
  obtain ⟨x0, hx0, hx1⟩ : ∃ x0, p.fds[f]? = some x0 ∧ x0.x.ps = [x] := Option.map_eq_some_iff.mp (show (p.fds[f]?).map (·.x.ps) = some [x] from hps)
  obtain ⟨fd, F0⟩ := SaysD_mem cs (d := x0.df) (List.mem_append_left _ (List.mem_map.mpr ⟨x0, List.mem_of_getElem? hx0, rfl⟩))
  have eF : (p.Γ K).fad f = x0.ad K := Pg.fadr_at hx0
  have F : FunD K x0.name x0.qual x0.params x0.x.body x0.x.scope [] [] ((p.Γ K).fad f) fd := by rw [eF]; exact F0
  have hp : parOf x0.params = some [x] := by
    have := hok
    unfold Pg.ok at this
    rw [Bool.and_eq_true] at this
    have := List.all_eq_true.mp this.1 x0 (List.mem_of_getElem? hx0)
    rw [Bool.and_eq_true, decide_eq_true_eq, hx1] at this
    exact this.2
  have e0 : (p.Γ K).fad f = He.ga K d.name := Pg.fadr_glo hd
  have hnd : p.nms.Nodup := by
    have := hok
    unfold Pg.ok at this
    rw [Bool.and_eq_true, Bool.and_eq_true, Bool.and_eq_true, decide_eq_true_eq] at this
    exact this.2.2.1
  have hF := Pg.clsF (p := p) cx hnd hm
  have hfa : fa = (p.Γ K).fad f := by
    have o := (Pg.wo (P := l.prog) (w := w) (base := h) KX G cx ck).gl _ hg
    have o1 : mg d.name = some (.ref ((p.Γ K).fad f)) := o.1
    rw [hmg] at o1
    injection o1 with o2
    injection o2
  subst hfa
  have hfd := FdN.of F hp
  refine ⟨K, p.cs K, fd, spI (p.Γ K) (callF p.T N f), KX, hcs, one_bind hfd, fun H a ns hl ht hS => script_sp hlaw H a ns hl ht hS, fun base _ _ TB => ?_⟩
  have o := Pg.wo (P := l.prog) (w := w) (base := base) KX G cx ck
  have hD := Pg.defs (p := p) (P := l.prog) (w := w) (mg := mg) (base := base) cs cx hok TB
  have hDC := Pg.kdefs (p := p) cs hok
  have all := (all_G (Γ := p.Γ K) (B := ⟨l.prog, w, mg, base⟩) (gl := p.gl) (nm := p.nm) (G := p.gd) p.T rfl o rfl (fun n ih ih2 ih3 => ev_full rfl hC hF ih ih2 ih3) hD hDC N).1 f [x] hps
  obtain ⟨fd', _, _, FG, oc, od, osl, lk⟩ := all
  obtain ⟨oc2, od2, osl2, lk2⟩ := fun_look F
  have ef : fd' = fd := by
    have e := lk.symm.trans lk2
    injection e with e
    injection e with _ _ e _
    injection e
  rw [← ef]
  exact FG
end KP
end

section
set_option maxRecDepth 100000
set_option maxHeartbeats 4000000
namespace K05
open PySem PySem.Spec PyProof.Rows L2 KP
/-! the program of the law, as a datum (printed by gen.py) -/
def top (i : Nat) : Stmt := PySem.Challenge.pw_kindtells_k05_whole_leads_of_manners_by.main.body.getD i (.Pass ⟨0, 0, 0, 0⟩)
def clB (s : Stmt) (i : Nat) : Stmt := (match s with
  | .ClassDef _ _ _ b _ _ _ _ _ _ _ => b
  | _ => []).getD i (.Pass ⟨0, 0, 0, 0⟩)
def kt_KNOWN : List (Str × D) := [("one", .int 1), ("two", .int 2)]
def d_is_integer : Def := ⟨1, 1, false, [.ret (.and (.op (.isi [.int]) [.v 0]) (.op .not [.op (.isi [.bool]) [.v 0]]))]⟩
def d_is_within : Def := ⟨3, 3, false, [.ife (.op .not [.call 0 [.v 0] [0]]) [.ret (.c (.bl false))] [], .ret (.and (.or (.op .isN [.v 1]) (.op .ge [.v 0, .v 1])) (.or (.op .isN [.v 2]) (.op .le [.v 0, .v 2])))]⟩
def d_are_numbers : Def := ⟨1, 2, false, [.ret (.and (.op (.isi [.list, .tuple]) [.v 0]) (.op .all [.cmp [1] (.call 0 [.v 1] [0]) (.nm 1) .seq [.v 0] []]))]⟩
def d_need_number : Def := ⟨4, 4, false, [.ife (.op .not [.call 1 [.v 0, .v 2, .v 3] [0, 1, 2]]) [.rai 1 [.v 1]] []]⟩
def d_need_thing : Def := ⟨2, 2, false, [.ife (.op .not [.call 1 [.v 0, .c (.int 0), .op .sub [.v 1, .c (.int 1)]] [0, 1, 2]]) [.rai 6 [.v 0]] []]⟩
def d_need_lead : Def := ⟨2, 2, false, [.ife (.op .not [.op (.isi [.cls 8]) [.v 0]]) [.rai 2 [.v 1]] []]⟩
def d_need_row : Def := ⟨2, 3, false, [.ife (.or (.op .not [.call 2 [.v 0] [0]]) (.op .not [.chn .le .le (.c (.int 1)) (.op .len [.v 0]) (.c (.int 5))])) [.rai 1 [.c (.str "row")]] [], .for (.nm 2) .seq [.v 0] [.ex (.call 4 [.v 2, .v 1] [0, 1])]]⟩
def d_led : Def := ⟨2, 3, false, [.ret (.op .totup [.cmp [2] (.op .idx [.v 0, .v 2]) (.nm 2) .seq [.v 1] []])]⟩
def d_idle : Def := ⟨1, 1, false, [.ex (.call 3 [.v 0, .c (.str "things"), .c (.int 1), .c (.int 5)] [0, 1, 2, 3]), .ret (.mk 8 [.v 0, .op .lrng [.v 0]] [0, 1])]⟩
def d_need_manner : Def := ⟨2, 2, false, [.ife (.or (.op .not [.op (.isi [.str]) [.v 0]]) (.op .nin [.v 0, .c (.tup [(.str "blind"), (.str "rank"), (.str "either"), (.str "least"), (.str "ends"), (.str "one"), (.str "two"), (.str "alike"), (.str "order")])])) [.rai 3 [.v 1]] []]⟩
def d_need_let : Def := ⟨2, 2, false, [.ife (.and (.op .eq [.v 0, .c (.str "two")]) (.op .lt [.v 1, .op (.kidx kt_KNOWN) [.v 0]])) [.rai 4 [.c (.str "things")]] []]⟩
def d_never_falls : Def := ⟨1, 3, false, [.ret (.op .all [.cmp [1, 2] (.op .le [.v 1, .v 2]) (.tp [1, 2]) .zip [.v 0, .slL (.v 0) (.c (.int 1))] []])]⟩
def d_has_ends : Def := ⟨2, 2, false, [.ret (.and (.op .eq [.op .idx [.v 0, .c (.int 0)], .c (.int 0)]) (.op .eq [.op .idx [.v 0, .op .neg [.c (.int 1)]], .op .sub [.v 1, .c (.int 1)]]))]⟩
def d_is_row_of : Def := ⟨3, 4, false, [.ife (.op .eq [.v 0, .c (.str "rank")]) [.ret (.call 11 [.v 1] [0])] [], .ife (.op .eq [.v 0, .c (.str "either")]) [.ret (.or (.call 11 [.v 1] [0]) (.call 11 [.op .rev [.v 1]] [0]))] [], .ife (.op .eq [.v 0, .c (.str "least")]) [.ret (.and (.op .eq [.op .idx [.v 1, .c (.int 0)], .c (.int 0)]) (.call 11 [.v 1] [0]))] [], .ife (.op .eq [.v 0, .c (.str "ends")]) [.ret (.and (.call 12 [.v 1, .v 2] [0, 1]) (.call 11 [.v 1] [0]))] [], .ife (.op .eq [.v 0, .c (.str "alike")]) [.ret (.op .eq [.op .lenset [.v 1], .op .len [.v 1]])] [], .ife (.op .eq [.v 0, .c (.str "order")]) [.ret (.and (.call 11 [.v 1] [0]) (.op .eq [.op .lenset [.v 1], .op .len [.v 1]]))] [], .set 3 (.op (.kget kt_KNOWN) [.v 0, .c (.int 0)]), .ret (.op .eq [.slU (.v 1) (.v 3), .op .trng [.v 3]])]⟩
def d_all_rows : Def := ⟨2, 6, false, [.set 2 (.lst [.tup []]), .for (.nm 3) .rng1 [.v 0] [.set 2 (.cmp2 [4, 5] [5] (.tup [.st (.v 4), .v 5]) (.nm 4) .seq [.v 2] [] (.nm 5) .rng1 [.v 1] [])], .ret (.v 2)]⟩
def d_rows_of : Def := ⟨3, 4, false, [.ret (.cmp [3] (.v 3) (.nm 3) .seq [.call 14 [.v 1, .v 2] [0, 1]] [.call 13 [.v 0, .v 3, .v 2] [0, 1, 2]])]⟩
def d_need_asked : Def := ⟨3, 3, false, [.ex (.call 9 [.v 0, .c (.str "manner")] [0, 1]), .ex (.call 3 [.v 1, .c (.str "begin"), .c (.int 1), .c (.int 5)] [0, 1, 2, 3]), .ex (.call 3 [.v 2, .c (.str "into"), .c (.int 1), .c (.int 5)] [0, 1, 2, 3]), .ex (.call 10 [.v 0, .op .min2 [.v 1, .v 2]] [0, 1])]⟩
def d_is_of : Def := ⟨2, 2, false, [.ex (.call 5 [.v 0, .c (.str "lead")] [0, 1]), .ex (.call 9 [.v 1, .c (.str "manner")] [0, 1]), .ex (.call 10 [.v 1, .op .min2 [.fld (.v 0) 4, .fld (.v 0) 5]] [0, 1]), .ret (.call 13 [.v 1, .fld (.v 0) 6, .fld (.v 0) 5] [0, 1, 2])]⟩
def d_leads : Def := ⟨3, 4, false, [.ex (.call 16 [.v 0, .v 1, .v 2] [0, 1, 2]), .ret (.op .totup [.cmp [3] (.mk 8 [.v 2, .v 3] [0, 1]) (.nm 3) .seq [.call 15 [.v 0, .v 1, .v 2] [0, 1, 2]] []])]⟩
def d_many_leads : Def := ⟨3, 3, false, [.ex (.call 16 [.v 0, .v 1, .v 2] [0, 1, 2]), .ret (.op .len [.call 15 [.v 0, .v 1, .v 2] [0, 1, 2]])]⟩
def d_law_pen : Def := ⟨1, 2, true, [.retn (.lst [.cmp [1] (.op .toi [.v 1]) (.nm 1) .seq [.slU (.v 0) (.c (.int 60))] [], .c (.int 0), .c (.int 0)])]⟩
def d_law_draw : Def := ⟨2, 6, false, [.ife (.op .gt [.op .idx [.v 0, .c (.int 2)], .c (.int 0)]) [.set 5 (.op .toi [.op .idx [.v 0, .c (.int 2)]]), .sti (.v 0) (.c (.int 2)) (.op .fdiv [.v 5, .v 1]), .ret (.op .mod [.op .toi [.v 5], .v 1])] [], .set 2 (.op .idx [.v 0, .c (.int 1)]), .sti (.v 0) (.c (.int 1)) (.op .add [.v 2, .c (.int 1)]), .set 3 (.op .add [.op .mul [.c (.int 64013), .v 2], .c (.int 7127)]), .ife (.op .ne [.op .idx [.v 0, .c (.int 0)], .lst []]) [.set 3 (.op .idx [.op .idx [.v 0, .c (.int 0)], .op .mod [.op .toi [.v 2], .op .len [.op .idx [.v 0, .c (.int 0)]]]])] [], .ife (.and (.op .lt [.v 2, .op .len [.op .idx [.v 0, .c (.int 0)]]]) (.op .ge [.op .abs [.v 3], .op .pow [.c (.int 10), .c (.int 18)]])) [.set 5 (.op .add [.op .mul [.c (.int 2), .op .sub [.op .abs [.v 3], .op .pow [.c (.int 10), .c (.int 18)]]], .op .toi [.op .lt [.v 3, .c (.int 0)]]]), .sti (.v 0) (.c (.int 2)) (.op .fdiv [.op .toi [.v 5], .v 1]), .ret (.op .mod [.op .toi [.v 5], .v 1])] [], .set 4 (.op .mod [.op .toi [.op .pow [.op .add [.op .add [.op .mod [.op .toi [.v 3], .c (.int 2147483587)], .op .mul [.c (.int 38039), .v 2]], .c (.int 7127)], .c (.int 5)]], .c (.int 2147483629)]), .set 4 (.op .mod [.op .toi [.op .pow [.op .add [.op .add [.op .mul [.v 4, .op .add [.op .mul [.c (.int 2), .v 2], .c (.int 4021)]], .op .mul [.op .mul [.c (.int 64013), .v 2], .v 2]], .c (.int 38039)], .c (.int 3)]], .c (.int 2147483549)]), .ret (.op .mod [.op .toi [.op .fdiv [.v 4, .c (.int 64)]], .v 1])]⟩
def d_law_pick : Def := ⟨2, 2, false, [.ret (.op .idx [.v 1, .call 21 [.v 0, .op .len [.v 1]] [0, 1]])]⟩
def d_law_is : Def := ⟨3, 5, false, [.set 3 (.op .srt [.v 1]), .ife (.or (.and (.op .inn [.v 0, .tup [.c (.str "one"), .c (.str "least")]]) (.op .ne [.op .idx [.v 1, .c (.int 0)], .c (.int 0)])) (.and (.op .eq [.v 0, .c (.str "two")]) (.op .ne [.op .tolst [.slU (.v 1) (.c (.int 2))], .lst [.c (.int 0), .c (.int 1)]]))) [.ret (.c (.bl false))] [], .ife (.and (.op .eq [.v 0, .c (.str "ends")]) (.or (.op .ne [.op .idx [.v 1, .c (.int 0)], .c (.int 0)]) (.op .ne [.op .idx [.v 1, .op .sub [.op .len [.v 1], .c (.int 1)]], .op .sub [.v 2, .c (.int 1)]]))) [.ret (.c (.bl false))] [], .ife (.and (.op .inn [.v 0, .tup [.c (.str "alike"), .c (.str "order")]]) (.op .ne [.cmp [4] (.v 4) (.nm 4) .seq [.v 1] [.op .gt [.bm .count (.op .tolst [.v 1]) [.v 4], .c (.int 1)]], .lst []])) [.ret (.c (.bl false))] [], .ife (.op .eq [.v 0, .c (.str "either")]) [.ret (.op .inn [.op .tolst [.v 1], .tup [.v 3, .op .rev [.v 3]]])] [], .ret (.or (.op .inn [.v 0, .tup [.c (.str "blind"), .c (.str "one"), .c (.str "two"), .c (.str "alike")]]) (.op .eq [.op .tolst [.v 1], .v 3]))]⟩
def d_law_rows : Def := ⟨2, 8, false, [.par [4, 5] [.c (.int 1), .nw (.lst [])], .for (.nm 2) .rng1 [.v 0] [.set 4 (.op .mul [.v 4, .v 1])], .for (.nm 3) .rng1 [.v 4] [.par [6, 7] [.nw (.lst []), .v 3], .for (.nm 2) .rng1 [.v 0] [.ex (.bm .app (.v 6) [.op .mod [.op .toi [.v 7], .v 1]]), .set 7 (.op .fdiv [.op .toi [.v 7], .v 1])], .ex (.bm .app (.v 5) [.op .totup [.op .rev [.v 6]]])], .ret (.v 5)]⟩
def d_law_choose : Def := ⟨2, 4, false, [.set 2 (.c (.int 1)), .for (.nm 3) .rng1 [.v 1] [.set 2 (.op .fdiv [.op .toi [.op .mul [.v 2, .op .sub [.v 0, .v 3]]], .op .add [.v 3, .c (.int 1)]])], .ret (.ife (.chn .le .le (.c (.int 0)) (.v 1) (.v 0)) (.v 2) (.c (.int 0)))]⟩
def d_law_times : Def := ⟨2, 4, false, [.set 2 (.c (.int 1)), .for (.nm 3) .rng1 [.v 1] [.set 2 (.op .mul [.v 2, .v 0])], .ret (.v 2)]⟩
def d_law_many : Def := ⟨3, 7, false, [.par [5, 6] [.call 25 [.op .sub [.op .add [.v 1, .v 2], .c (.int 1)], .v 1] [0, 1], .c (.int 1)], .for (.nm 3) .rng1 [.v 1] [.set 6 (.op .mul [.v 6, .op .max2 [.c (.int 0), .op .sub [.v 2, .v 3]]])], .set 4 (.dct [.inr "blind", .inr "one", .inr "two"] [.c (.int 0), .c (.int 1), .c (.int 2)]), .ife (.op .inn [.v 0, .v 4]) [.ret (.call 26 [.v 2, .op .sub [.v 1, .op .idx [.v 4, .v 0]]] [0, 1])] [], .ife (.op .inn [.v 0, .tup [.c (.str "rank"), .c (.str "either")]]) [.ret (.ife (.op .eq [.v 0, .c (.str "rank")]) (.v 5) (.op .sub [.op .mul [.c (.int 2), .v 5], .v 2]))] [], .ife (.op .eq [.v 0, .c (.str "least")]) [.ret (.call 25 [.op .sub [.op .add [.v 1, .v 2], .c (.int 2)], .op .sub [.v 1, .c (.int 1)]] [0, 1])] [], .ife (.op .eq [.v 0, .c (.str "ends")]) [.ret (.ife (.op .gt [.v 1, .c (.int 1)]) (.call 25 [.op .sub [.op .add [.v 1, .v 2], .c (.int 3)], .op .sub [.v 1, .c (.int 2)]] [0, 1]) (.op .toi [.op .eq [.v 2, .c (.int 1)]]))] [], .ret (.ife (.op .eq [.v 0, .c (.str "alike")]) (.v 6) (.call 25 [.v 2, .v 1] [0, 1]))]⟩
def d_law_listed_right : Def := ⟨3, 8, false, [.set 3 (.call 18 [.v 2, .v 1, .v 0] [2, 1, 0]), .set 4 (.cmp [6] (.v 6) (.nm 6) .seq [.call 24 [.v 1, .v 2] [0, 1]] [.call 23 [.v 0, .v 6, .v 2] [0, 1, 2]]), .ife (.or (.op .not [.op (.isi [.tuple]) [.v 3]]) (.or (.op .ne [.op .repr [.cmp [7] (.fld (.v 7) 6) (.nm 7) .seq [.v 3] []], .op .repr [.v 4]]) (.op .ne [.cmp [7] (.v 7) (.nm 7) .seq [.v 3] [.op .ne [.tup [.fld (.v 7) 4, .fld (.v 7) 5], .tup [.v 1, .v 2]]], .lst []]))) [.ret (.c (.bl false))] [], .set 5 (.call 19 [.v 2, .v 1, .v 0] [2, 1, 0]), .ret (.and (.op .eq [.op .repr [.v 5], .op .repr [.op .len [.v 4]]]) (.op .eq [.v 5, .call 27 [.v 0, .v 1, .v 2] [0, 1, 2]]))]⟩
def d_law_asked_right : Def := ⟨3, 8, false, [.set 3 (.op .totup [.cmp [7] (.call 21 [.v 0, .v 2] [0, 1]) (.nm 7) .rng1 [.v 1] []]), .set 3 (.call 22 [.v 0, .lst [.v 3, .op .totup [.op .srt [.v 3]], .op .rev [.op .totup [.op .srt [.v 3]]], .op .add [.tup [.c (.int 0)], .slL (.v 3) (.c (.int 1))], .ife (.op .gt [.v 1, .c (.int 1)]) (.op .add [.tup [.c (.int 0), .op .sub [.v 2, .c (.int 1)]], .slL (.v 3) (.c (.int 2))]) (.v 3)]] [0, 1]), .set 4 (.cmp [6] (.v 6) (.nm 6) .seq [.c (.tup [(.str "blind"), (.str "rank"), (.str "either"), (.str "least"), (.str "ends"), (.str "one"), (.str "two"), (.str "alike"), (.str "order")])] [.or (.op .ne [.v 6, .c (.str "two")]) (.op .gt [.op .min2 [.v 1, .v 2], .c (.int 1)])]), .set 5 (.cmp [6] (.call 17 [.v 6, .mk 8 [.v 2, .v 3] [0, 1]] [1, 0]) (.nm 6) .seq [.v 4] []), .ife (.op .ne [.op .repr [.v 5], .op .repr [.cmp [6] (.call 23 [.v 6, .v 3, .v 2] [0, 1, 2]) (.nm 6) .seq [.v 4] []]]) [.ret (.c (.bl false))] [], .ret (.op .eq [.cmp [6] (.v 6) (.nm 6) .seq [.c (.tup [(.str "blind"), (.str "rank"), (.str "either"), (.str "least"), (.str "ends"), (.str "one"), (.str "two"), (.str "alike"), (.str "order")])] [.and (.or (.op .ne [.v 6, .c (.str "two")]) (.op .gt [.v 1, .c (.int 1)])) (.op (.notT true) [.call 17 [.call 8 [.v 1] [0], .v 6] [0, 1]])], .lst []])]⟩
def d_law_behind_right : Def := ⟨3, 6, false, [.par [4, 5] [.call 18 [.v 1, .op .idx [.v 2, .c (.int 0)], .op .idx [.v 2, .c (.int 1)]] [0, 1, 2], .call 18 [.v 1, .op .idx [.v 2, .c (.int 1)], .op .idx [.v 2, .c (.int 2)]] [0, 1, 2]], .ife (.or (.op .eq [.v 4, .tup []]) (.op .eq [.v 5, .tup []])) [.ret (.op .inn [.v 1, .tup [.c (.str "ends"), .c (.str "alike"), .c (.str "order")]])] [], .set 3 (.mth 7 (.call 22 [.v 0, .v 4] [0, 1]) [.call 22 [.v 0, .v 5] [0, 1]] [0, 1]), .ret (.and (.op (.isT true) [.call 17 [.v 3, .v 1] [0, 1]]) (.op .inO [.v 3, .call 18 [.v 1, .op .idx [.v 2, .c (.int 0)], .op .idx [.v 2, .c (.int 2)]] [0, 1, 2]]))]⟩
def d_law : Def := ⟨1, 10, false, [.set 1 (.call 20 [.v 0] [0]), .ife (.op .ne [.c (.tup [(.str "blind"), (.str "rank"), (.str "either"), (.str "least"), (.str "ends"), (.str "one"), (.str "two"), (.str "alike"), (.str "order")]), .tup [.c (.str "blind"), .c (.str "rank"), .c (.str "either"), .c (.str "least"), .c (.str "ends"), .c (.str "one"), .c (.str "two"), .c (.str "alike"), .c (.str "order")]]) [.ret (.c (.bl false))] [], .for (.nm 2) .rng1 [.c (.int 2)] [.unp [5, 6] (.tup [.op .add [.c (.int 1), .call 21 [.v 1, .c (.int 5)] [0, 1]], .op .add [.c (.int 1), .call 21 [.v 1, .c (.int 5)] [0, 1]]]), .set 3 (.cmp [7] (.v 7) (.nm 7) .seq [.c (.tup [(.str "blind"), (.str "rank"), (.str "either"), (.str "least"), (.str "ends"), (.str "one"), (.str "two"), (.str "alike"), (.str "order")])] [.or (.op .ne [.v 7, .c (.str "two")]) (.op .gt [.op .min2 [.v 5, .v 6], .c (.int 1)])]), .set 4 (.ife (.op .lt [.call 26 [.v 6, .v 5] [0, 1], .c (.int 257)]) (.v 3) (.lst [.call 22 [.v 1, .v 3] [0, 1]])), .ife (.or (.op .ne [.cmp [7] (.v 7) (.nm 7) .seq [.v 4] [.op .not [.call 28 [.v 7, .v 5, .v 6] [0, 1, 2]]], .lst []]) (.op .not [.call 29 [.v 1, .v 5, .v 6] [0, 1, 2]])) [.ret (.c (.bl false))] [], .par [7, 8] [.call 22 [.v 1, .c (.tup [(.str "blind"), (.str "rank"), (.str "either"), (.str "least"), (.str "ends"), (.str "one"), (.str "two"), (.str "alike"), (.str "order")])] [0, 1], .cmp [9] (.op .add [.c (.int 2), .call 21 [.v 1, .c (.int 2)] [0, 1]]) (.nm 9) .rng1 [.c (.int 3)] []], .ife (.or (.op .not [.call 29 [.v 1, .op .add [.c (.int 1), .call 21 [.v 1, .c (.int 5)] [0, 1]], .op .add [.c (.int 1), .call 21 [.v 1, .c (.int 5)] [0, 1]]] [0, 1, 2]]) (.op .not [.call 30 [.v 1, .v 7, .v 8] [0, 1, 2]])) [.ret (.c (.bl false))] []], .ret (.c (.bl true))]⟩
def d_Lead_init : Def := ⟨3, 3, false, [.ex (.call 3 [.v 1, .c (.str "into"), .c (.int 1), .c (.int 5)] [0, 1, 2, 3]), .ex (.call 6 [.v 2, .v 1] [0, 1]), .stf (.v 0) 4 (.op .len [.v 2]), .stf (.v 0) 5 (.v 1), .stf (.v 0) 6 (.op .totup [.v 2])]⟩
def d_Lead_then : Def := ⟨2, 2, false, [.ex (.call 5 [.v 1, .c (.str "other")] [0, 1]), .ife (.op .ne [.fld (.v 1) 4, .fld (.v 0) 5]) [.rai 4 [.c (.str "things")]] [], .ret (.mk 8 [.fld (.v 1) 5, .call 7 [.fld (.v 1) 6, .fld (.v 0) 6] [0, 1]] [0, 1])]⟩
def d_Lead_eq : Def := ⟨2, 2, false, [.ret (.and (.op (.isi [.cls 8]) [.v 1]) (.and (.op .eq [.fld (.v 0) 5, .fld (.v 1) 5]) (.op .eq [.fld (.v 0) 6, .fld (.v 1) 6])))]⟩
def d_Lead_str : Def := ⟨1, 2, false, [.ret (.bm .join (.c (.str " ")) [.lst [.st (.cmp [1] (.op .tos [.v 1]) (.nm 1) .seq [.fld (.v 0) 6] []), .c (.str ":"), .op .tos [.fld (.v 0) 5]]])]⟩
def pg : Pg where
  gl := [gn "BadLead" (.cls 2), gn "BadManner" (.cls 3), gn "BadNumber" (.cls 1), gn "COLON" (.val (.str ":")), gn "KNOWN" (.kdt kt_KNOWN), gn "Lead" (.cls 8), gn "MANNERS" (.val (.tup [(.str "blind"), (.str "rank"), (.str "either"), (.str "least"), (.str "ends"), (.str "one"), (.str "two"), (.str "alike"), (.str "order")])), gn "MOST_THINGS" (.val (.int 5)), gn "Misfit" (.cls 4), gn "NoThing" (.cls 6), gn "_law_asked_right" (.fn 29), gn "_law_behind_right" (.fn 30), gn "_law_choose" (.fn 25), gn "_law_draw" (.fn 21), gn "_law_is" (.fn 23), gn "_law_listed_right" (.fn 28), gn "_law_many" (.fn 27), gn "_law_pen" (.fn 20), gn "_law_pick" (.fn 22), gn "_law_rows" (.fn 24), gn "_law_times" (.fn 26), gn "abs" .free, gn "all" .free, gn "all_rows" (.fn 14), gn "are_numbers" (.fn 2), gn "bool" .free, gn "has_ends" (.fn 12), gn "idle" (.fn 8), gn "int" .free, gn "is_integer" (.fn 0), gn "is_of" (.fn 17), gn "is_row_of" (.fn 13), gn "is_within" (.fn 1), gn "isinstance" .free, gn "law" (.fn 31), gn "leads" (.fn 18), gn "led" (.fn 7), gn "len" .free, gn "list" .free, gn "many_leads" (.fn 19), gn "max" .free, gn "min" .free, gn "need_asked" (.fn 16), gn "need_lead" (.fn 5), gn "need_let" (.fn 10), gn "need_manner" (.fn 9), gn "need_number" (.fn 3), gn "need_row" (.fn 6), gn "need_thing" (.fn 4), gn "never_falls" (.fn 11), gn "range" .free, gn "repr" .free, gn "rows_of" (.fn 15), gn "set" .free, gn "sorted" .free, gn "str" .free, gn "tuple" .free, gn "zip" .free]
  nms := ["__init__", "__eq__", "__bool__", "__str__", "begin", "into", "row", "then", "part", "value", "line", "item"]
  fds := [
    ⟨("is_integer", none), "is_integer", "is_integer", L2.defArgs (top 11), ⟨["value"], ["value"], L2.defScope (top 11), L2.defBody (top 11), d_is_integer, none⟩, false⟩,
    ⟨("is_within", none), "is_within", "is_within", L2.defArgs (top 12), ⟨["value", "least", "most"], ["value", "least", "most"], L2.defScope (top 12), L2.defBody (top 12), d_is_within, none⟩, false⟩,
    ⟨("are_numbers", none), "are_numbers", "are_numbers", L2.defArgs (top 13), ⟨["value", "part"], ["value"], L2.defScope (top 13), L2.defBody (top 13), d_are_numbers, none⟩, false⟩,
    ⟨("need_number", none), "need_number", "need_number", L2.defArgs (top 14), ⟨["value", "part", "least", "most"], ["value", "part", "least", "most"], L2.defScope (top 14), L2.defBody (top 14), d_need_number, none⟩, false⟩,
    ⟨("need_thing", none), "need_thing", "need_thing", L2.defArgs (top 16), ⟨["value", "things"], ["value", "things"], L2.defScope (top 16), L2.defBody (top 16), d_need_thing, none⟩, false⟩,
    ⟨("need_lead", none), "need_lead", "need_lead", L2.defArgs (top 25), ⟨["value", "part"], ["value", "part"], L2.defScope (top 25), L2.defBody (top 25), d_need_lead, none⟩, false⟩,
    ⟨("need_row", none), "need_row", "need_row", L2.defArgs (top 26), ⟨["row", "into", "thing"], ["row", "into"], L2.defScope (top 26), L2.defBody (top 26), d_need_row, none⟩, false⟩,
    ⟨("led", none), "led", "led", L2.defArgs (top 28), ⟨["row", "things", "thing"], ["row", "things"], L2.defScope (top 28), L2.defBody (top 28), d_led, none⟩, false⟩,
    ⟨("idle", none), "idle", "idle", L2.defArgs (top 29), ⟨["things"], ["things"], L2.defScope (top 29), L2.defBody (top 29), d_idle, none⟩, false⟩,
    ⟨("need_manner", none), "need_manner", "need_manner", L2.defArgs (top 33), ⟨["value", "part"], ["value", "part"], L2.defScope (top 33), L2.defBody (top 33), d_need_manner, none⟩, false⟩,
    ⟨("need_let", none), "need_let", "need_let", L2.defArgs (top 34), ⟨["manner", "things"], ["manner", "things"], L2.defScope (top 34), L2.defBody (top 34), d_need_let, none⟩, false⟩,
    ⟨("never_falls", none), "never_falls", "never_falls", L2.defArgs (top 35), ⟨["row", "one", "other"], ["row"], L2.defScope (top 35), L2.defBody (top 35), d_never_falls, none⟩, false⟩,
    ⟨("has_ends", none), "has_ends", "has_ends", L2.defArgs (top 36), ⟨["row", "into"], ["row", "into"], L2.defScope (top 36), L2.defBody (top 36), d_has_ends, none⟩, false⟩,
    ⟨("is_row_of", none), "is_row_of", "is_row_of", L2.defArgs (top 37), ⟨["manner", "row", "into", "known"], ["manner", "row", "into"], L2.defScope (top 37), L2.defBody (top 37), d_is_row_of, none⟩, false⟩,
    ⟨("all_rows", none), "all_rows", "all_rows", L2.defArgs (top 38), ⟨["length", "things", "found", "_", "row", "thing"], ["length", "things"], L2.defScope (top 38), L2.defBody (top 38), d_all_rows, none⟩, false⟩,
    ⟨("rows_of", none), "rows_of", "rows_of", L2.defArgs (top 39), ⟨["manner", "begin", "into", "row"], ["manner", "begin", "into"], L2.defScope (top 39), L2.defBody (top 39), d_rows_of, none⟩, false⟩,
    ⟨("need_asked", none), "need_asked", "need_asked", L2.defArgs (top 40), ⟨["manner", "begin", "into"], ["manner", "begin", "into"], L2.defScope (top 40), L2.defBody (top 40), d_need_asked, none⟩, false⟩,
    ⟨("is_of", none), "is_of", "is_of", L2.defArgs (top 41), ⟨["lead", "manner"], ["lead", "manner"], L2.defScope (top 41), L2.defBody (top 41), d_is_of, none⟩, false⟩,
    ⟨("leads", none), "leads", "leads", L2.defArgs (top 42), ⟨["manner", "begin", "into", "row"], ["manner", "begin", "into"], L2.defScope (top 42), L2.defBody (top 42), d_leads, none⟩, false⟩,
    ⟨("many_leads", none), "many_leads", "many_leads", L2.defArgs (top 43), ⟨["manner", "begin", "into"], ["manner", "begin", "into"], L2.defScope (top 43), L2.defBody (top 43), d_many_leads, none⟩, false⟩,
    ⟨("_law_pen", none), "_law_pen", "_law_pen", L2.defArgs (top 45), ⟨["script", "cell"], ["script"], L2.defScope (top 45), L2.defBody (top 45), d_law_pen, none⟩, false⟩,
    ⟨("_law_draw", none), "_law_draw", "_law_draw", L2.defArgs (top 46), ⟨["pen", "many", "at", "cell", "mixed", "rest"], ["pen", "many"], L2.defScope (top 46), L2.defBody (top 46), d_law_draw, none⟩, false⟩,
    ⟨("_law_pick", none), "_law_pick", "_law_pick", L2.defArgs (top 47), ⟨["pen", "some"], ["pen", "some"], L2.defScope (top 47), L2.defBody (top 47), d_law_pick, none⟩, false⟩,
    ⟨("_law_is", none), "_law_is", "_law_is", L2.defArgs (top 48), ⟨["manner", "row", "into", "rises", "thing"], ["manner", "row", "into"], L2.defScope (top 48), L2.defBody (top 48), d_law_is, none⟩, false⟩,
    ⟨("_law_rows", none), "_law_rows", "_law_rows", L2.defArgs (top 49), ⟨["begin", "into", "thing", "number", "total", "found", "row", "rest"], ["begin", "into"], L2.defScope (top 49), L2.defBody (top 49), d_law_rows, none⟩, false⟩,
    ⟨("_law_choose", none), "_law_choose", "_law_choose", L2.defArgs (top 50), ⟨["many", "some", "found", "at"], ["many", "some"], L2.defScope (top 50), L2.defBody (top 50), d_law_choose, none⟩, false⟩,
    ⟨("_law_times", none), "_law_times", "_law_times", L2.defArgs (top 51), ⟨["base", "many", "found", "turn"], ["base", "many"], L2.defScope (top 51), L2.defBody (top 51), d_law_times, none⟩, false⟩,
    ⟨("_law_many", none), "_law_many", "_law_many", L2.defArgs (top 52), ⟨["manner", "begin", "into", "thing", "known", "rank", "alike"], ["manner", "begin", "into"], L2.defScope (top 52), L2.defBody (top 52), d_law_many, none⟩, false⟩,
    ⟨("_law_listed_right", none), "_law_listed_right", "_law_listed_right", L2.defArgs (top 53), ⟨["manner", "begin", "into", "told", "due", "many", "row", "lead"], ["manner", "begin", "into"], L2.defScope (top 53), L2.defBody (top 53), d_law_listed_right, none⟩, false⟩,
    ⟨("_law_asked_right", none), "_law_asked_right", "_law_asked_right", L2.defArgs (top 54), ⟨["pen", "begin", "into", "row", "let", "told", "manner", "thing"], ["pen", "begin", "into"], L2.defScope (top 54), L2.defBody (top 54), d_law_asked_right, none⟩, false⟩,
    ⟨("_law_behind_right", none), "_law_behind_right", "_law_behind_right", L2.defArgs (top 55), ⟨["pen", "manner", "sizes", "both", "first", "second"], ["pen", "manner", "sizes"], L2.defScope (top 55), L2.defBody (top 55), d_law_behind_right, none⟩, false⟩,
    ⟨("law", none), "law", "law", L2.defArgs (top 56), ⟨["script", "pen", "turn", "let", "asked", "begin", "into", "manner", "sizes", "world"], ["script"], L2.defScope (top 56), L2.defBody (top 56), d_law, none⟩, false⟩,
    ⟨("Lead", some "__init__"), "__init__", "Lead.__init__", L2.defArgs (clB (top 27) 0), ⟨["self", "into", "row"], ["self", "into", "row"], L2.defScope (clB (top 27) 0), L2.defBody (clB (top 27) 0), d_Lead_init, none⟩, false⟩,
    ⟨("Lead", some "then"), "then", "Lead.then", L2.defArgs (clB (top 27) 3), ⟨["self", "other"], ["self", "other"], L2.defScope (clB (top 27) 3), L2.defBody (clB (top 27) 3), d_Lead_then, none⟩, false⟩,
    ⟨("Lead", some "__eq__"), "__eq__", "Lead.__eq__", L2.defArgs (clB (top 27) 4), ⟨["self", "other"], ["self", "other"], L2.defScope (clB (top 27) 4), L2.defBody (clB (top 27) 4), d_Lead_eq, none⟩, false⟩,
    ⟨("Lead", some "__str__"), "__str__", "Lead.__str__", L2.defArgs (clB (top 27) 5), ⟨["self", "thing"], ["self"], L2.defScope (clB (top 27) 5), L2.defBody (clB (top 27) 5), d_Lead_str, none⟩, false⟩]
  cls := [
    ⟨"TellsError", ⟨[0], none, [], 3, []⟩, none⟩,
    ⟨"BadNumber", ⟨[1, 0], none, [], 2, [8]⟩, some ⟨("BadNumber", some "__init__"), "__init__", "BadNumber.__init__", L2.defArgs (clB (top 3) 0), L2.defBody (clB (top 3) 0), L2.defScope (clB (top 3) 0), [], []⟩⟩,
    ⟨"BadLead", ⟨[2, 0], none, [], 2, [8]⟩, some ⟨("BadLead", some "__init__"), "__init__", "BadLead.__init__", L2.defArgs (clB (top 4) 0), L2.defBody (clB (top 4) 0), L2.defScope (clB (top 4) 0), [], []⟩⟩,
    ⟨"BadManner", ⟨[3, 0], none, [], 2, [8]⟩, some ⟨("BadManner", some "__init__"), "__init__", "BadManner.__init__", L2.defArgs (clB (top 5) 0), L2.defBody (clB (top 5) 0), L2.defScope (clB (top 5) 0), [], []⟩⟩,
    ⟨"Misfit", ⟨[4, 0], none, [], 2, [8]⟩, some ⟨("Misfit", some "__init__"), "__init__", "Misfit.__init__", L2.defArgs (clB (top 6) 0), L2.defBody (clB (top 6) 0), L2.defScope (clB (top 6) 0), [], []⟩⟩,
    ⟨"Missing", ⟨[5, 0], none, [], 2, [9]⟩, some ⟨("Missing", some "__init__"), "__init__", "Missing.__init__", L2.defArgs (clB (top 7) 0), L2.defBody (clB (top 7) 0), L2.defScope (clB (top 7) 0), [], []⟩⟩,
    ⟨"NoThing", ⟨[6, 5, 0], none, [], 2, [9]⟩, some ⟨("NoThing", some "__init__"), "__init__", "Missing.__init__", L2.defArgs (clB (top 7) 0), L2.defBody (clB (top 7) 0), L2.defScope (clB (top 7) 0), [], []⟩⟩,
    ⟨"BadText", ⟨[7, 0], none, [], 2, [10, 11]⟩, some ⟨("BadText", some "__init__"), "__init__", "BadText.__init__", L2.defArgs (clB (top 9) 0), L2.defBody (clB (top 9) 0), L2.defScope (clB (top 9) 0), [], []⟩⟩,
    ⟨"Lead", ⟨[8], some 32, [(1, 34), (3, 35), (7, 33)], 0, [4, 5, 6]⟩, none⟩]
  kds := [
    ]
  sms := []
end K05
end

section
set_option maxRecDepth 100000
set_option maxHeartbeats 0
namespace K05
open PySem PySem.Spec PyProof.Rows L2 KP
def ckd (f : Nat) : Bool := match pg.fds[f]? with
  | some x => x.x.ok pg.gd pg.gl pg.nm 40 && decide (parOf x.params = some x.x.ps)
  | none => false
theorem c0 : ckd 0 = true := by kernel_rfl
theorem c1 : ckd 1 = true := by kernel_rfl
theorem c2 : ckd 2 = true := by kernel_rfl
theorem c3 : ckd 3 = true := by kernel_rfl
theorem c4 : ckd 4 = true := by kernel_rfl
theorem c5 : ckd 5 = true := by kernel_rfl
theorem c6 : ckd 6 = true := by kernel_rfl
theorem c7 : ckd 7 = true := by kernel_rfl
theorem c8 : ckd 8 = true := by kernel_rfl
theorem c9 : ckd 9 = true := by kernel_rfl
theorem c10 : ckd 10 = true := by kernel_rfl
theorem c11 : ckd 11 = true := by kernel_rfl
theorem c12 : ckd 12 = true := by kernel_rfl
theorem c13 : ckd 13 = true := by kernel_rfl
theorem c14 : ckd 14 = true := by kernel_rfl
theorem c15 : ckd 15 = true := by kernel_rfl
theorem c16 : ckd 16 = true := by kernel_rfl
theorem c17 : ckd 17 = true := by kernel_rfl
theorem c18 : ckd 18 = true := by kernel_rfl
theorem c19 : ckd 19 = true := by kernel_rfl
theorem c20 : ckd 20 = true := by kernel_rfl
theorem c21 : ckd 21 = true := by kernel_rfl
theorem c22 : ckd 22 = true := by kernel_rfl
theorem c23 : ckd 23 = true := by kernel_rfl
theorem c24 : ckd 24 = true := by kernel_rfl
theorem c25 : ckd 25 = true := by kernel_rfl
theorem c26 : ckd 26 = true := by kernel_rfl
theorem c27 : ckd 27 = true := by kernel_rfl
theorem c28 : ckd 28 = true := by kernel_rfl
theorem c29 : ckd 29 = true := by kernel_rfl
theorem c30 : ckd 30 = true := by kernel_rfl
theorem c31 : ckd 31 = true := by kernel_rfl
theorem c32 : ckd 32 = true := by kernel_rfl
theorem c33 : ckd 33 = true := by kernel_rfl
theorem c34 : ckd 34 = true := by kernel_rfl
theorem c35 : ckd 35 = true := by kernel_rfl
theorem kd : (pg.kds.all fun f => f.x.ok pg.gd pg.gl pg.nm 40 && decide (parOf f.params = some [f.x.a])) = true := by kernel_rfl
theorem nd : decide pg.nms.Nodup = true := by kernel_rfl
theorem cd : (pg.cls.all fun c => (c.i.flds.all fun f => decide (f < pg.nms.length) && decide (pg.nm f ≠ Str.empty)) && match c.ini with
  | some d => decide (d.at_ = (c.nm, some ("__init__" : Str))) && (d.dfl.isEmpty && (d.kwd.isEmpty && initOk pg.nm c.i.flds d.params d.scope d.body))
  | none => decide (c.i.kind ≠ 2)) = true := by kernel_rfl
end K05
end

section
set_option maxRecDepth 100000
set_option maxHeartbeats 4000000
/-! KPW: stepping through the small Python by rewriting; what the drawing functions do. -/
namespace KP
open PySem L2
section
variable {cx : Cxt} {ρ : Rho} {μ : Mu}
@[simp] theorem LN_eq : LN = 16777216 := rfl
@[simp] theorem exs_nil : exs cx [] ρ μ = .ok (.nx ρ) μ := rfl
/-- on with the rest -/
def onF (cx : Cxt) (r : List S) : F → Mu → R F
  | .nx ρ', μ => exs cx r ρ' μ
  | .ret d, μ => .ok (.ret d) μ
  | .brk ρ', μ => .ok (.brk ρ') μ
  | .cont ρ', μ => .ok (.cont ρ') μ
@[simp] theorem w_exs_cons (s : S) (r : List S) : exs cx (s :: r) ρ μ = (ex cx s ρ μ).bind fun f μ => onF cx r f μ := by
  show R.bind _ _ = _
  cases ex cx s ρ μ with
  | ok f μ => cases f <;> rfl
  | _ => rfl
@[simp] theorem onF_nx (r : List S) : onF cx r (.nx ρ) μ = exs cx r ρ μ := rfl
@[simp] theorem onF_ret (r : List S) (d : D) : onF cx r (.ret d) μ = .ok (.ret d) μ := rfl
@[simp] theorem onF_brk (r : List S) : onF cx r (.brk ρ) μ = .ok (.brk ρ) μ := rfl
@[simp] theorem onF_cont (r : List S) : onF cx r (.cont ρ) μ = .ok (.cont ρ) μ := rfl
/-- one or the other -/
def iteB {α : Type} (k : Bool) (a b : α) : α := match k with
  | true => a
  | false => b
@[simp] theorem iteB_t {α : Type} (a b : α) : iteB true a b = a := rfl
@[simp] theorem iteB_f {α : Type} (a b : α) : iteB false a b = b := rfl
theorem bindB_eq {α : Type} {r : R Bool} {f g : Bool → Mu → R α} (h : ∀ k μ, f k μ = g k μ) : r.bind f = r.bind g := by
  cases r with
  | ok k μ => exact h k μ
  | _ => rfl
theorem bind_eq {α β : Type} {r : R α} {f g : α → Mu → R β} (h : ∀ k μ, f k μ = g k μ) : r.bind f = r.bind g := by
  cases r with
  | ok k μ => exact h k μ
  | _ => rfl
@[simp] theorem ex_set (i : Nat) (e : E) : ex cx (.set i e) ρ μ = (ev cx e ρ μ).bind fun d μ => .ok (.nx (ρ.set i (some d))) μ := rfl
@[simp] theorem ex_new (i : Nat) (e : E) : ex cx (.new i e) ρ μ = ((ev cx e ρ μ).bind thawR).bind fun d μ => .ok (.nx (ρ.set i (some d))) μ := rfl
@[simp] theorem ex_ex (e : E) : ex cx (.ex e) ρ μ = (ev cx e ρ μ).bind fun _ μ => .ok (.nx ρ) μ := rfl
@[simp] theorem ex_ret (e : E) : ex cx (.ret e) ρ μ = (ev cx e ρ μ).bind fun d μ => .ok (.ret d) μ := rfl
@[simp] theorem ex_retn (e : E) : ex cx (.retn e) ρ μ = ((ev cx e ρ μ).bind thawR).bind fun d μ => .ok (.ret d) μ := rfl
@[simp] theorem ex_ret0 : ex cx .ret0 ρ μ = .ok (.ret .non) μ := rfl
@[simp] theorem ex_brk : ex cx .brk ρ μ = .ok (.brk ρ) μ := rfl
@[simp] theorem ex_cont : ex cx .cont ρ μ = .ok (.cont ρ) μ := rfl
@[simp] theorem ex_pass : ex cx .pass ρ μ = .ok (.nx ρ) μ := rfl
@[simp] theorem ex_ife (c : E) (a b : List S) : ex cx (.ife c a b) ρ μ = (evb cx c ρ μ).bind fun k μ => iteB k (exs cx a ρ μ) (exs cx b ρ μ) := bindB_eq fun k μ => by cases k <;> rfl
@[simp] theorem ex_par (is : List Nat) (es : List E) : ex cx (.par is es) ρ μ = (evs cx es ρ μ).bind fun vs μ => if vs.length = is.length then .ok (.nx ((is.zip vs).foldl (fun ρ p => ρ.set p.1 (some p.2)) ρ)) μ else .stuck := rfl
def someR {α : Type} (o : Option α) (f : α → R F) : R F := match o with
  | some a => f a
  | none => .stuck
@[simp] theorem someR_some {α : Type} (a : α) (f : α → R F) : someR (some a) f = f a := rfl
@[simp] theorem ex_unp (is : List Nat) (e : E) : ex cx (.unp is e) ρ μ = (ev cx e ρ μ).bind fun d μ => someR (tgt (.tp is) d ρ μ) fun ρ' => .ok (.nx ρ') μ := bind_eq fun d μ => by
  unfold someR; cases tgt (.tp is) d ρ μ <;> rfl
@[simp] theorem ex_sti (o i e : E) : ex cx (.sti o i e) ρ μ = (ev cx e ρ μ).bind fun d μ => (ev cx o ρ μ).bind fun x μ => (ev cx i ρ μ).bind fun y μ => someR (setL x y d μ) fun μ' => .ok (.nx ρ) μ' := bind_eq fun d μ => bind_eq fun x μ => bind_eq fun y μ => by
  unfold someR; cases setL x y d μ <;> rfl
/-- a loop's body -/
def bodyL (cx : Cxt) (b : List S) : Rho → Mu → R F := fun ρ μ => exs cx b ρ μ
@[simp] theorem bodyL_app (b : List S) : bodyL cx b ρ μ = exs cx b ρ μ := rfl
@[simp] theorem ex_for (g : G) (k : ItK) (es : List E) (b : List S) : ex cx (.for g k es b) ρ μ = (evs cx es ρ μ).bind fun vs μ1 => someR (itD k vs μ1) fun xs => forL (still vs μ1) g (bodyL cx b) xs ρ μ1 := bind_eq fun d μ => by
  unfold someR; cases itD k d μ <;> rfl
@[simp] theorem ex_rai (c : Nat) (es : List E) : ex cx (.rai c es) ρ μ = (evs cx es ρ μ).bind fun vs μ => raiD cx c vs μ := rfl
@[simp] theorem ev_and' (a b : E) : ev cx (.and a b) ρ μ = (ev cx a ρ μ).bind fun d μ => (trD cx d μ).bind fun k μ => iteB k (ev cx b ρ μ) (.ok d μ) := by
  rw [ev_and]
  exact bind_eq fun d μ => bindB_eq fun k μ => by cases k <;> rfl
@[simp] theorem ev_or' (a b : E) : ev cx (.or a b) ρ μ = (ev cx a ρ μ).bind fun d μ => (trD cx d μ).bind fun k μ => iteB k (.ok d μ) (ev cx b ρ μ) := by
  rw [ev_or]
  exact bind_eq fun d μ => bindB_eq fun k μ => by cases k <;> rfl
@[simp] theorem ev_ife' (c a b : E) : ev cx (.ife c a b) ρ μ = (evb cx c ρ μ).bind fun k μ => iteB k (ev cx a ρ μ) (ev cx b ρ μ) := by
  rw [ev_ife]
  exact bindB_eq fun k μ => by cases k <;> rfl
@[simp] theorem ev_chn' (o1 o2 : Op) (a b c : E) : ev cx (.chn o1 o2 a b c) ρ μ = (ev cx a ρ μ).bind fun x μ => (ev cx b ρ μ).bind fun y μ => (toB (opD cx o1 [x, y] μ)).bind fun k μ => iteB k ((ev cx c ρ μ).bind fun z μ => opD cx o2 [y, z] μ) (.ok (.bl false) μ) := by
  rw [ev_chn]
  exact bind_eq fun d μ => bind_eq fun d μ => bindB_eq fun k μ => by cases k <;> rfl
@[simp] theorem evb_and' (a b : E) : evb cx (.and a b) ρ μ = (evb cx a ρ μ).bind fun k μ => iteB k (evb cx b ρ μ) (.ok false μ) := by
  rw [evb_and]
  exact bindB_eq fun k μ => by cases k <;> rfl
@[simp] theorem evb_or' (a b : E) : evb cx (.or a b) ρ μ = (evb cx a ρ μ).bind fun k μ => iteB k (.ok true μ) (evb cx b ρ μ) := by
  rw [evb_or]
  exact bindB_eq fun k μ => by cases k <;> rfl
@[simp] theorem evb_ife' (c a b : E) : evb cx (.ife c a b) ρ μ = (evb cx c ρ μ).bind fun k μ => iteB k (evb cx a ρ μ) (evb cx b ρ μ) := by
  rw [evb_ife]
  exact bindB_eq fun k μ => by cases k <;> rfl
@[simp] theorem evc_cons' (e : E) (r : List E) : evc cx (e :: r) ρ μ = (evb cx e ρ μ).bind fun k μ => iteB k (evc cx r ρ μ) (.ok false μ) := by
  rw [evc_cons]
  exact bindB_eq fun k μ => by cases k <;> rfl
/-- the list that a comprehension makes -/
def lstR (r : R (List D)) : R D := r.bind fun ys μ => .ok (.lst ys) μ
def someD {α : Type} (o : Option α) (f : α → R D) : R D := match o with
  | some a => f a
  | none => .stuck
@[simp] theorem someD_some {α : Type} (a : α) (f : α → R D) : someD (some a) f = f a := rfl
@[simp] theorem ev_cmp' (ow : List Nat) (elt : E) (g : G) (k : ItK) (es cs : List E) : ev cx (.cmp ow elt g k es cs) ρ μ = (evs cx es ρ μ).bind fun vs μ1 => someD (itD k vs μ1) fun xs => if xs.length ≤ LN then lstR (compL (still vs μ1) (turnC cx ow elt g cs ρ) xs [] μ1) else .stuck := by
  rw [ev_cmp]
  exact bind_eq fun d μ => by unfold someD lstR; cases itD k d μ <;> rfl
@[simp] theorem ev_cmpR' (ow : List Nat) (elt : E) (g : G) (k : ItK) (es cs : List E) : ev cx (.cmpR ow elt g k es cs) ρ μ = (evs cx es ρ μ).bind fun vs μ1 => someD (itD k vs μ1) fun xs => if xs.length ≤ LN then lstR (compR (still vs μ1) (turnR cx ow elt g cs ρ) xs [] μ1) else .stuck := by
  rw [ev_cmpR]
  exact bind_eq fun d μ => by unfold someD lstR; cases itD k d μ <;> rfl
theorem getV_get {i : Nat} {d : D} (h : ρ[i]? = some (some d)) : getV i ρ μ = .ok d μ := by unfold getV; rw [h]
@[simp] theorem getV_z (d : D) (r : Rho) : getV 0 (some d :: r) μ = .ok d μ := rfl
@[simp] theorem getV_s (i : Nat) (d : Option D) (r : Rho) : getV (i + 1) (d :: r) μ = getV i r μ := rfl
/-! for the rewriting -/
@[simp] theorem z_v (i : Nat) : ev cx (.v i) ρ μ = getV i ρ μ := rfl
@[simp] theorem z_c (d : D) : ev cx (.c d) ρ μ = .ok d μ := rfl
@[simp] theorem z_op {o : Op} (h : o ≠ .not) (es : List E) : ev cx (.op o es) ρ μ = (evs cx es ρ μ).bind fun vs μ => opD cx o vs μ := ev_op h es
@[simp] theorem z_not (a : E) : ev cx (.op .not [a]) ρ μ = (evb cx a ρ μ).bind fun k μ => .ok (.bl (!k)) μ := rfl
@[simp] theorem z_tup (es : List E) : ev cx (.tup es) ρ μ = (evs cx es ρ μ).bind mkTup := rfl
@[simp] theorem z_lst (es : List E) : ev cx (.lst es) ρ μ = (evs cx es ρ μ).bind mkLst := rfl
@[simp] theorem z_dct (ks : List Key) (vs : List E) : ev cx (.dct ks vs) ρ μ = (evs cx vs ρ μ).bind fun vs μ => mkDct ks vs μ := rfl
@[simp] theorem z_call (f : Nat) (es : List E) (pm : List Nat) : ev cx (.call f es pm) ρ μ = (evs cx es ρ μ).bind fun vs μ => callP cx f pm vs μ := rfl
@[simp] theorem z_bm (o : Op) (e : E) (es : List E) : ev cx (.bm o e es) ρ μ = (ev cx e ρ μ).bind fun d μ => if recvOk o μ d then (evs cx es ρ μ).bind fun vs μ => opD cx o (d :: vs) μ else .stuck := rfl
@[simp] theorem z_fld (e : E) (f : Nat) : ev cx (.fld e f) ρ μ = (ev cx e ρ μ).bind fun d μ => fldD cx f d μ := rfl
@[simp] theorem z_lam (g : Nat) (e : E) : ev cx (.lam g e) ρ μ = cx.lf g μ.length (ev cx e ρ μ) := rfl
@[simp] theorem z_nil : evs cx [] ρ μ = .ok [] μ := rfl
@[simp] theorem z_st (e : E) (r : List E) : evs cx (.st e :: r) ρ μ = (ev cx e ρ μ).bind fun d μ => starD d μ fun μ => evs cx r ρ μ := rfl
@[simp] theorem z_cnil : evc cx [] ρ μ = .ok true μ := rfl
@[simp] theorem z_bnot (a : E) : evb cx (.op .not [a]) ρ μ = (evb cx a ρ μ).bind fun k μ => .ok (!k) μ := evb_not a
@[simp] theorem zc_v (i : Nat) (r : List E) : evs cx (.v i :: r) ρ μ = (ev cx (.v i) ρ μ).bind fun d μ => (evs cx r ρ μ).bind fun vs μ => .ok (d :: vs) μ := evs_cons rfl r
@[simp] theorem zb_v (i : Nat) : evb cx (.v i) ρ μ = (ev cx (.v i) ρ μ).bind fun d μ => trD cx d μ := evb_plain rfl
@[simp] theorem zc_c (d : D) (r : List E) : evs cx (.c d :: r) ρ μ = (ev cx (.c d) ρ μ).bind fun d μ => (evs cx r ρ μ).bind fun vs μ => .ok (d :: vs) μ := evs_cons rfl r
@[simp] theorem zb_c (d : D) : evb cx (.c d) ρ μ = (ev cx (.c d) ρ μ).bind fun d μ => trD cx d μ := evb_plain rfl
@[simp] theorem zc_op (o : Op) (es : List E) (r : List E) : evs cx (.op o es :: r) ρ μ = (ev cx (.op o es) ρ μ).bind fun d μ => (evs cx r ρ μ).bind fun vs μ => .ok (d :: vs) μ := evs_cons rfl r
@[simp] theorem zb_op (o : Op) (h : o ≠ .not) (es : List E) : evb cx (.op o es) ρ μ = (ev cx (.op o es) ρ μ).bind fun d μ => trD cx d μ := evb_plain (decide_eq_true h)
@[simp] theorem zc_and (a b : E) (r : List E) : evs cx (.and a b :: r) ρ μ = (ev cx (.and a b) ρ μ).bind fun d μ => (evs cx r ρ μ).bind fun vs μ => .ok (d :: vs) μ := evs_cons rfl r
@[simp] theorem zc_or (a b : E) (r : List E) : evs cx (.or a b :: r) ρ μ = (ev cx (.or a b) ρ μ).bind fun d μ => (evs cx r ρ μ).bind fun vs μ => .ok (d :: vs) μ := evs_cons rfl r
@[simp] theorem zc_ife (a b c : E) (r : List E) : evs cx (.ife a b c :: r) ρ μ = (ev cx (.ife a b c) ρ μ).bind fun d μ => (evs cx r ρ μ).bind fun vs μ => .ok (d :: vs) μ := evs_cons rfl r
@[simp] theorem zc_chn (o p : Op) (a b c : E) (r : List E) : evs cx (.chn o p a b c :: r) ρ μ = (ev cx (.chn o p a b c) ρ μ).bind fun d μ => (evs cx r ρ μ).bind fun vs μ => .ok (d :: vs) μ := evs_cons rfl r
@[simp] theorem zb_chn (o p : Op) (a b c : E) : evb cx (.chn o p a b c) ρ μ = (ev cx (.chn o p a b c) ρ μ).bind fun d μ => trD cx d μ := evb_plain rfl
@[simp] theorem zc_tup (es : List E) (r : List E) : evs cx (.tup es :: r) ρ μ = (ev cx (.tup es) ρ μ).bind fun d μ => (evs cx r ρ μ).bind fun vs μ => .ok (d :: vs) μ := evs_cons rfl r
@[simp] theorem zb_tup (es : List E) : evb cx (.tup es) ρ μ = (ev cx (.tup es) ρ μ).bind fun d μ => trD cx d μ := evb_plain rfl
@[simp] theorem zc_lst (es : List E) (r : List E) : evs cx (.lst es :: r) ρ μ = (ev cx (.lst es) ρ μ).bind fun d μ => (evs cx r ρ μ).bind fun vs μ => .ok (d :: vs) μ := evs_cons rfl r
@[simp] theorem zb_lst (es : List E) : evb cx (.lst es) ρ μ = (ev cx (.lst es) ρ μ).bind fun d μ => trD cx d μ := evb_plain rfl
@[simp] theorem zc_dct (ks : List Key) (es : List E) (r : List E) : evs cx (.dct ks es :: r) ρ μ = (ev cx (.dct ks es) ρ μ).bind fun d μ => (evs cx r ρ μ).bind fun vs μ => .ok (d :: vs) μ := evs_cons rfl r
@[simp] theorem zb_dct (ks : List Key) (es : List E) : evb cx (.dct ks es) ρ μ = (ev cx (.dct ks es) ρ μ).bind fun d μ => trD cx d μ := evb_plain rfl
@[simp] theorem zc_call (f : Nat) (es : List E) (pm : List Nat) (r : List E) : evs cx (.call f es pm :: r) ρ μ = (ev cx (.call f es pm) ρ μ).bind fun d μ => (evs cx r ρ μ).bind fun vs μ => .ok (d :: vs) μ := evs_cons rfl r
@[simp] theorem zb_call (f : Nat) (es : List E) (pm : List Nat) : evb cx (.call f es pm) ρ μ = (ev cx (.call f es pm) ρ μ).bind fun d μ => trD cx d μ := evb_plain rfl
@[simp] theorem zc_mk (f : Nat) (es : List E) (pm : List Nat) (r : List E) : evs cx (.mk f es pm :: r) ρ μ = (ev cx (.mk f es pm) ρ μ).bind fun d μ => (evs cx r ρ μ).bind fun vs μ => .ok (d :: vs) μ := evs_cons rfl r
@[simp] theorem zb_mk (f : Nat) (es : List E) (pm : List Nat) : evb cx (.mk f es pm) ρ μ = (ev cx (.mk f es pm) ρ μ).bind fun d μ => trD cx d μ := evb_plain rfl
@[simp] theorem zc_mth (f : Nat) (e : E) (es : List E) (pm : List Nat) (r : List E) : evs cx (.mth f e es pm :: r) ρ μ = (ev cx (.mth f e es pm) ρ μ).bind fun d μ => (evs cx r ρ μ).bind fun vs μ => .ok (d :: vs) μ := evs_cons rfl r
@[simp] theorem zb_mth (f : Nat) (e : E) (es : List E) (pm : List Nat) : evb cx (.mth f e es pm) ρ μ = (ev cx (.mth f e es pm) ρ μ).bind fun d μ => trD cx d μ := evb_plain rfl
@[simp] theorem zc_bm (o : Op) (e : E) (es : List E) (r : List E) : evs cx (.bm o e es :: r) ρ μ = (ev cx (.bm o e es) ρ μ).bind fun d μ => (evs cx r ρ μ).bind fun vs μ => .ok (d :: vs) μ := evs_cons rfl r
@[simp] theorem zb_bm (o : Op) (e : E) (es : List E) : evb cx (.bm o e es) ρ μ = (ev cx (.bm o e es) ρ μ).bind fun d μ => trD cx d μ := evb_plain rfl
@[simp] theorem zc_sl0 (a : E) (r : List E) : evs cx (.sl0 a :: r) ρ μ = (ev cx (.sl0 a) ρ μ).bind fun d μ => (evs cx r ρ μ).bind fun vs μ => .ok (d :: vs) μ := evs_cons rfl r
@[simp] theorem zb_sl0 (a : E) : evb cx (.sl0 a) ρ μ = (ev cx (.sl0 a) ρ μ).bind fun d μ => trD cx d μ := evb_plain rfl
@[simp] theorem zc_slL (a b : E) (r : List E) : evs cx (.slL a b :: r) ρ μ = (ev cx (.slL a b) ρ μ).bind fun d μ => (evs cx r ρ μ).bind fun vs μ => .ok (d :: vs) μ := evs_cons rfl r
@[simp] theorem zb_slL (a b : E) : evb cx (.slL a b) ρ μ = (ev cx (.slL a b) ρ μ).bind fun d μ => trD cx d μ := evb_plain rfl
@[simp] theorem zc_slU (a b : E) (r : List E) : evs cx (.slU a b :: r) ρ μ = (ev cx (.slU a b) ρ μ).bind fun d μ => (evs cx r ρ μ).bind fun vs μ => .ok (d :: vs) μ := evs_cons rfl r
@[simp] theorem zb_slU (a b : E) : evb cx (.slU a b) ρ μ = (ev cx (.slU a b) ρ μ).bind fun d μ => trD cx d μ := evb_plain rfl
@[simp] theorem zc_slB (a b c : E) (r : List E) : evs cx (.slB a b c :: r) ρ μ = (ev cx (.slB a b c) ρ μ).bind fun d μ => (evs cx r ρ μ).bind fun vs μ => .ok (d :: vs) μ := evs_cons rfl r
@[simp] theorem zb_slB (a b c : E) : evb cx (.slB a b c) ρ μ = (ev cx (.slB a b c) ρ μ).bind fun d μ => trD cx d μ := evb_plain rfl
@[simp] theorem zc_fld (e : E) (f : Nat) (r : List E) : evs cx (.fld e f :: r) ρ μ = (ev cx (.fld e f) ρ μ).bind fun d μ => (evs cx r ρ μ).bind fun vs μ => .ok (d :: vs) μ := evs_cons rfl r
@[simp] theorem zb_fld (e : E) (f : Nat) : evb cx (.fld e f) ρ μ = (ev cx (.fld e f) ρ μ).bind fun d μ => trD cx d μ := evb_plain rfl
@[simp] theorem zc_nw (e : E) (r : List E) : evs cx (.nw e :: r) ρ μ = (ev cx (.nw e) ρ μ).bind fun d μ => (evs cx r ρ μ).bind fun vs μ => .ok (d :: vs) μ := evs_cons rfl r
@[simp] theorem z_nw (e : E) : ev cx (.nw e) ρ μ = (ev cx e ρ μ).bind thawR := rfl
@[simp] theorem zc_frz (e : E) (r : List E) : evs cx (.frz e :: r) ρ μ = (ev cx (.frz e) ρ μ).bind fun d μ => (evs cx r ρ μ).bind fun vs μ => .ok (d :: vs) μ := evs_cons rfl r
@[simp] theorem zb_frz (e : E) : evb cx (.frz e) ρ μ = (ev cx (.frz e) ρ μ).bind fun d μ => trD cx d μ := evb_plain rfl
@[simp] theorem zc_cmp (ow : List Nat) (elt : E) (g : G) (k : ItK) (es cs : List E) (r : List E) : evs cx (.cmp ow elt g k es cs :: r) ρ μ = (ev cx (.cmp ow elt g k es cs) ρ μ).bind fun d μ => (evs cx r ρ μ).bind fun vs μ => .ok (d :: vs) μ := evs_cons rfl r
@[simp] theorem zb_cmp (ow : List Nat) (elt : E) (g : G) (k : ItK) (es cs : List E) : evb cx (.cmp ow elt g k es cs) ρ μ = (ev cx (.cmp ow elt g k es cs) ρ μ).bind fun d μ => trD cx d μ := evb_plain rfl
@[simp] theorem zc_cmpR (ow : List Nat) (elt : E) (g : G) (k : ItK) (es cs : List E) (r : List E) : evs cx (.cmpR ow elt g k es cs :: r) ρ μ = (ev cx (.cmpR ow elt g k es cs) ρ μ).bind fun d μ => (evs cx r ρ μ).bind fun vs μ => .ok (d :: vs) μ := evs_cons rfl r
@[simp] theorem zb_cmpR (ow : List Nat) (elt : E) (g : G) (k : ItK) (es cs : List E) : evb cx (.cmpR ow elt g k es cs) ρ μ = (ev cx (.cmpR ow elt g k es cs) ρ μ).bind fun d μ => trD cx d μ := evb_plain rfl
@[simp] theorem zc_cmp2 (ow ow1 : List Nat) (elt : E) (g : G) (k : ItK) (es cs : List E) (g1 : G) (k1 : ItK) (es1 cs1 : List E) (r : List E) : evs cx (.cmp2 ow ow1 elt g k es cs g1 k1 es1 cs1 :: r) ρ μ = (ev cx (.cmp2 ow ow1 elt g k es cs g1 k1 es1 cs1) ρ μ).bind fun d μ => (evs cx r ρ μ).bind fun vs μ => .ok (d :: vs) μ := evs_cons rfl r
@[simp] theorem zb_cmp2 (ow ow1 : List Nat) (elt : E) (g : G) (k : ItK) (es cs : List E) (g1 : G) (k1 : ItK) (es1 cs1 : List E) : evb cx (.cmp2 ow ow1 elt g k es cs g1 k1 es1 cs1) ρ μ = (ev cx (.cmp2 ow ow1 elt g k es cs g1 k1 es1 cs1) ρ μ).bind fun d μ => trD cx d μ := evb_plain rfl
@[simp] theorem zc_lam (g : Nat) (e : E) (r : List E) : evs cx (.lam g e :: r) ρ μ = (ev cx (.lam g e) ρ μ).bind fun d μ => (evs cx r ρ μ).bind fun vs μ => .ok (d :: vs) μ := evs_cons rfl r
@[simp] theorem zb_lam (g : Nat) (e : E) : evb cx (.lam g e) ρ μ = (ev cx (.lam g e) ρ μ).bind fun d μ => trD cx d μ := evb_plain rfl
/-! operations -/
@[simp] theorem op_add (a b : D) : opD cx .add [a, b] μ = addD a b μ := rfl
@[simp] theorem op_sub (a b : Int) : opD cx .sub [.int a, .int b] μ = .ok (.int (a - b)) μ := rfl
@[simp] theorem op_mul (a b : D) : opD cx .mul [a, b] μ = mulD a b μ := rfl
@[simp] theorem op_fdiv (a b : Int) : opD cx .fdiv [.int a, .int b] μ = if 0 < b ∧ b < 1073741824 then .ok (.int (a / b)) μ else .stuck := rfl
@[simp] theorem op_mod (a b : Int) : opD cx .mod [.int a, .int b] μ = if 0 < b then .ok (.int (a % b)) μ else .stuck := rfl
@[simp] theorem op_pow (a b : Int) : opD cx .pow [.int a, .int b] μ = if 0 ≤ b ∧ b ≤ 1000000 ∧ a.natAbs < 2 ^ 64 then .ok (.int (a ^ b.toNat)) μ else .stuck := rfl
@[simp] theorem op_neg (a : Int) : opD cx .neg [.int a] μ = .ok (.int (-a)) μ := rfl
@[simp] theorem op_eq (a b : D) : opD cx .eq [a, b] μ = (eqD cx a b μ).bind okB := rfl
@[simp] theorem op_ne (a b : D) : opD cx .ne [a, b] μ = (eqD cx a b μ).bind fun b μ => okB (!b) μ := rfl
@[simp] theorem op_lt (a b : Int) : opD cx .lt [.int a, .int b] μ = okB (decide (a < b)) μ := rfl
@[simp] theorem op_le (a b : Int) : opD cx .le [.int a, .int b] μ = okB (decide (a ≤ b)) μ := rfl
@[simp] theorem op_gt (a b : Int) : opD cx .gt [.int a, .int b] μ = okB (decide (b < a)) μ := rfl
@[simp] theorem op_ge (a b : Int) : opD cx .ge [.int a, .int b] μ = okB (decide (b ≤ a)) μ := rfl
@[simp] theorem op_isN (a : D) : opD cx .isN [a] μ = okB (decide (a = .non)) μ := rfl
@[simp] theorem op_notN (a : D) : opD cx .notN [a] μ = okB (!decide (a = .non)) μ := rfl
@[simp] theorem op_inn (a b : D) : opD cx .inn [a, b] μ = (innD a b μ).bind okB := rfl
@[simp] theorem op_nin (a b : D) : opD cx .nin [a, b] μ = (innD a b μ).bind fun b μ => okB (!b) μ := rfl
@[simp] theorem op_idx (a b : D) : opD cx .idx [a, b] μ = idxD a b μ := rfl
@[simp] theorem op_len (a : D) : opD cx .len [a] μ = lenD a μ := rfl
@[simp] theorem op_abs (a : Int) : opD cx .abs [.int a] μ = .ok (.int (if a < 0 then -a else a)) μ := rfl
@[simp] theorem op_toi (a : Int) : opD cx .toi [.int a] μ = .ok (.int a) μ := rfl
@[simp] theorem op_tob (a : Bool) : opD cx .toi [.bl a] μ = .ok (.int (if a then 1 else 0)) μ := rfl
@[simp] theorem op_repr (a : D) : opD cx .repr [a] μ = someD (reprD (nrm μ a)) fun x => .ok (.str x) μ := by
  unfold someD; show (match reprD (nrm μ a) with | some x => _ | none => _) = _; cases reprD (nrm μ a) <;> rfl
@[simp] theorem op_totup (a : D) : opD cx .totup [a] μ = someD (seqOf μ a) fun xs => .ok (.tup xs) μ := by
  unfold someD; show (match seqOf μ a with | some x => _ | none => _) = _; cases seqOf μ a <;> rfl
@[simp] theorem op_tolst (a : D) : opD cx .tolst [a] μ = someD (seqOf μ a) fun xs => .ok (.lst xs) μ := by
  unfold someD; show (match seqOf μ a with | some x => _ | none => _) = _; cases seqOf μ a <;> rfl
@[simp] theorem op_isi (ts : List Ty) (a : D) : opD cx (.isi ts) [a] μ = someD (tyAny cx μ a ts) fun b => okB b μ := by
  unfold someD; show (match tyAny cx μ a ts with | some x => _ | none => _) = _; cases tyAny cx μ a ts <;> rfl
@[simp] theorem op_all (a : D) : opD cx .all [a] μ = someD (lstOf μ a) fun xs => someD (blsOf xs) fun bs => okB (bs.all id) μ := by
  show (match lstOf μ a with | some xs => (match blsOf xs with | some bs => okB (bs.all id) μ | none => .stuck) | none => .stuck) = _
  cases lstOf μ a with
  | none => rfl
  | some xs =>
    rw [someD_some]
    dsimp only
    cases blsOf xs <;> rfl
@[simp] theorem okB_eq (b : Bool) : okB b μ = .ok (.bl b) μ := rfl
@[simp] theorem toB_ok (b : Bool) : toB (.ok (.bl b) μ) = .ok b μ := rfl
@[simp] theorem tr_bl (b : Bool) : trD cx (.bl b) μ = .ok b μ := rfl
@[simp] theorem tr_int (b : Int) : trD cx (.int b) μ = .ok (decide (b ≠ 0)) μ := rfl
@[simp] theorem tr_lst (b : List D) : trD cx (.lst b) μ = .ok (!b.isEmpty) μ := rfl
@[simp] theorem tr_tup (b : List D) : trD cx (.tup b) μ = .ok (!b.isEmpty) μ := rfl
@[simp] theorem tr_non : trD cx .non μ = .ok false μ := rfl
@[simp] theorem add_int (a b : Int) : addD (.int a) (.int b) μ = .ok (.int (a + b)) μ := rfl
@[simp] theorem add_lst (a b : List D) : addD (.lst a) (.lst b) μ = if a.length + b.length ≤ LN then .ok (.lst (a ++ b)) μ else .stuck := rfl
@[simp] theorem add_tup (a b : List D) : addD (.tup a) (.tup b) μ = if a.length + b.length ≤ LN then .ok (.tup (a ++ b)) μ else .stuck := rfl
@[simp] theorem mul_int (a b : Int) : mulD (.int a) (.int b) μ = if (-(2 ^ 64) < a ∧ a < 2 ^ 64) ∨ (-(2 ^ 64) < b ∧ b < 2 ^ 64) then .ok (.int (a * b)) μ else .stuck := rfl
@[simp] theorem mul_lst (a : List D) (k : Int) : mulD (.lst a) (.int k) μ = if k ≤ 1000 ∧ -1000 ≤ k ∧ a.length ≤ 1000 then .ok (.lst (List.replicate k.toNat a).flatten) μ else .stuck := rfl
@[simp] theorem mul_tup (a : List D) (k : Int) : mulD (.tup a) (.int k) μ = if k ≤ 1 ∧ -1000 ≤ k ∧ a.length ≤ 1000 then .ok (.tup (List.replicate k.toNat a).flatten) μ else .stuck := rfl
@[simp] theorem seq_lst (xs : List D) : seqOf μ (.lst xs) = some xs := rfl
@[simp] theorem seq_tup (xs : List D) : seqOf μ (.tup xs) = some xs := rfl
@[simp] theorem lstOf_lst (xs : List D) : lstOf μ (.lst xs) = some xs := rfl
@[simp] theorem nrm_lst (xs : List D) : nrm μ (.lst xs) = .lst xs := rfl
@[simp] theorem nrm_tup (xs : List D) : nrm μ (.tup xs) = .tup xs := rfl
@[simp] theorem nrm_int (x : Int) : nrm μ (.int x) = .int x := rfl
@[simp] theorem nrm_bl (x : Bool) : nrm μ (.bl x) = .bl x := rfl
@[simp] theorem nrm_str (x : Str) : nrm μ (.str x) = .str x := rfl
@[simp] theorem nrm_non : nrm μ .non = .non := rfl
theorem seq_cell {n : Nat} {xs : List D} (h : μ[n]? = some (.lst xs)) : seqOf μ (.cell n) = some xs := by show (match μ[n]? with | some (.lst xs) => some xs | _ => none) = _; rw [h]
theorem lstOf_cell {n : Nat} {xs : List D} (h : μ[n]? = some (.lst xs)) : lstOf μ (.cell n) = some xs := by show (match μ[n]? with | some (.lst xs) => some xs | _ => none) = _; rw [h]
theorem nrm_cell {n : Nat} {xs : List D} (h : μ[n]? = some (.lst xs)) : nrm μ (.cell n) = .lst xs := by show (match μ[n]? with | some (.lst xs) => D.lst xs | _ => .cell n) = _; rw [h]
/-- an item by its number -/
theorem dc_seq {a : D} {xs : List D} (hs : ∀ x, a ≠ .str x) (h : seqOf μ a = some xs) : dcOf μ a = none := by
  cases a <;> first | rfl | (exfalso; exact absurd rfl (hs _)) | (cases h; done) | skip
  rename_i n
  unfold dcOf
  have h' : (match μ[n]? with | some (.lst xs) => some xs | _ => none) = some xs := h
  dsimp only
  cases hm : μ[n]? with
  | none => rfl
  | some m =>
    rw [hm] at h'
    cases m <;> first | rfl | cases h'
theorem idx_seq {a d : D} {xs : List D} {i : Int} (hs : ∀ x, a ≠ .str x) (h : seqOf μ a = some xs) (h0 : 0 ≤ i) (h1 : xs[i.toNat]? = some d) : idxD a (.int i) μ = .ok d μ := by
  have hl : i.toNat < xs.length := by
    rcases Nat.lt_or_ge i.toNat xs.length with h | h
    · exact h
    · rw [List.getElem?_eq_none h] at h1; cases h1
  have e : ixOf xs.length i = some i.toNat := by
    unfold ixOf L2.ixN
    have : (i : Int) < xs.length := by omega
    simp [h0, this]
  have hd := dc_seq hs h
  unfold idxD
  cases a <;> first | exact absurd rfl (hs _) | (simp only [hd, h, e, h1])
theorem idx_lst {d : D} {xs : List D} {i : Int} (h0 : 0 ≤ i) (h1 : xs[i.toNat]? = some d) : idxD (.lst xs) (.int i) μ = .ok d μ := idx_seq (fun _ => by simp) rfl h0 h1
theorem idx_tup {d : D} {xs : List D} {i : Int} (h0 : 0 ≤ i) (h1 : xs[i.toNat]? = some d) : idxD (.tup xs) (.int i) μ = .ok d μ := idx_seq (fun _ => by simp) rfl h0 h1
theorem idx_cell {n : Nat} {d : D} {xs : List D} {i : Int} (h : μ[n]? = some (.lst xs)) (h0 : 0 ≤ i) (h1 : xs[i.toNat]? = some d) : idxD (.cell n) (.int i) μ = .ok d μ := idx_seq (fun _ => by simp) (seq_cell h) h0 h1
@[simp] theorem len_lst (xs : List D) : lenD (.lst xs) μ = .ok (.int (xs.length : Nat)) μ := rfl
@[simp] theorem len_tup (xs : List D) : lenD (.tup xs) μ = .ok (.int (xs.length : Nat)) μ := rfl
theorem idx_lsc {n : Nat} {d : D} {xs : List D} {i : Int} (h : μ[n]? = some (.lsc xs)) (h0 : 0 ≤ i) (h1 : xs[i.toNat]? = some d) : idxD (.cell n) (.int i) μ = .ok d μ := by
  have hl : i.toNat < xs.length := (List.getElem?_eq_some_iff.mp h1).1
  have e : ixOf xs.length i = some i.toNat := by
    unfold ixOf L2.ixN
    have : (i : Int) < xs.length := by omega
    simp [h0, this]
  unfold idxD
  simp only [dcOf, seqOf, lscOf, h, e, h1]
theorem len_lsc {n : Nat} {xs : List D} (h : μ[n]? = some (.lsc xs)) : lenD (.cell n) μ = .ok (.int (xs.length : Nat)) μ := by
  unfold lenD
  simp only [seqOf, lscOf, h]
theorem len_cell {n : Nat} {xs : List D} (h : μ[n]? = some (.lst xs)) : lenD (.cell n) μ = .ok (.int (xs.length : Nat)) μ := by
  unfold lenD
  simp only [seq_cell h]
/-- plain things compared -/
theorem w_eqD_dat {a b : D} (ha : dat (nrm μ a) 60 = true) (hb : dat (nrm μ b) 60 = true) : eqD cx a b μ = .ok (eqv (nrm μ a) (nrm μ b)) μ := by
  unfold eqD
  split
  · rename_i hc
    rw [hc] at ha
    simp [dat] at ha
  · simp only [ha, hb, Bool.and_self]
theorem datL_ints (xs : List Int) (n : Nat) : datL (xs.map .int) n = true := by
  induction xs with
  | nil => rfl
  | cons x r ih => simp [datL, dat, ih]
theorem eqvL_ints (xs ys : List Int) : eqvL (xs.map .int) (ys.map .int) = decide (xs = ys) := by
  induction xs generalizing ys with
  | nil => cases ys <;> simp [eqvL]
  | cons x r ih =>
    cases ys with
    | nil => simp [eqvL]
    | cons y s =>
      simp only [List.map_cons, eqvL, eqv, ih, List.cons.injEq]
      by_cases h1 : x = y <;> by_cases h2 : r = s <;> simp [h1, h2]
theorem setL_cell {n : Nat} {xs : List D} {i : Int} {d : D} (hd : d.isCell = false) (h : μ[n]? = some (.lst xs)) (h0 : 0 ≤ i) (hl : i.toNat < xs.length) : setL (.cell n) (.int i) d μ = some (μ.set n (.lst (xs.set i.toNat d))) := by
  have e : ixOf xs.length i = some i.toNat := by
    unfold ixOf L2.ixN
    have : (i : Int) < xs.length := by omega
    simp [h0, this]
  unfold setL
  simp only [hd, h, e]
  rfl
end
end KP
namespace KP
open PySem L2
/-- a comprehension whose turns change nothing -/
theorem compL_pure {st : Mu → Bool} {f : D → Mu → R (Option D)} {μ : Mu} (g : D → Option D) (hs : st μ = true) : ∀ (xs acc : List D), (∀ x ∈ xs, f x μ = .ok (g x) μ) → (∀ x ∈ xs, ∀ y, g x = some y → y.isCell = false) → compL st f xs acc μ = .ok (acc ++ xs.filterMap g) μ
  | [], acc, _, _ => by simp [compL, hs]
  | x :: xs, acc, h, hc => by
    unfold compL
    rw [hs, if_pos rfl, h x (by simp)]
    show (match g x with | some y => _ | none => _) = _
    cases hg : g x with
    | none =>
      show compL st f xs acc μ = _
      rw [compL_pure g hs xs acc (fun y hy => h y (List.mem_cons_of_mem _ hy)) (fun y hy => hc y (List.mem_cons_of_mem _ hy))]
      simp [hg]
    | some y =>
      show (if y.isCell = true then _ else compL st f xs (acc ++ [y]) μ) = _
      rw [hc x (by simp) y hg, compL_pure g hs xs _ (fun y hy => h y (List.mem_cons_of_mem _ hy)) (fun y hy => hc y (List.mem_cons_of_mem _ hy))]
      simp [hg]
theorem compL_map {st : Mu → Bool} {f : D → Mu → R (Option D)} {μ : Mu} (g : D → D) (hs : st μ = true) (xs : List D) (h : ∀ x ∈ xs, f x μ = .ok (some (g x)) μ) (hc : ∀ x ∈ xs, (g x).isCell = false) : compL st f xs [] μ = .ok (xs.map g) μ := by
  rw [compL_pure (fun x => some (g x)) hs xs [] h (fun x hx y e => by cases e; exact hc x hx)]
  simp
/-- a comprehension that keeps an invariant: how many were done, what came, the store -/
theorem compL_inv {st : Mu → Bool} {f : D → Mu → R (Option D)} (I : Nat → List D → Mu → Prop) (hs : ∀ k acc μ, I k acc μ → st μ = true) : ∀ (xs acc : List D) (k : Nat) (μ : Mu), I k acc μ →
    (∀ k acc μ, I k acc μ → ∀ x ∈ xs, ∃ o μ', f x μ = .ok o μ' ∧ match o with
      | some y => y.isCell = false ∧ I (k + 1) (acc ++ [y]) μ'
      | none => I (k + 1) acc μ') →
    ∃ ys μ', compL st f xs acc μ = .ok ys μ' ∧ I (k + xs.length) ys μ'
  | [], acc, k, μ, h, _ => ⟨acc, μ, by simp [compL, hs k acc μ h], h⟩
  | x :: xs, acc, k, μ, h, hf => by
    obtain ⟨o, μ', e, q⟩ := hf k acc μ h x (by simp)
    unfold compL
    rw [hs k acc μ h, if_pos rfl, e]
    have hf' := fun k acc μ hI y (hy : y ∈ xs) => hf k acc μ hI y (List.mem_cons_of_mem _ hy)
    cases o with
    | none =>
      obtain ⟨ys, μ2, e2, q2⟩ := compL_inv I hs xs acc (k + 1) μ' q hf'
      exact ⟨ys, μ2, e2, by simpa [Nat.add_assoc, Nat.add_comm 1] using q2⟩
    | some y =>
      obtain ⟨hy, q⟩ := q
      obtain ⟨ys, μ2, e2, q2⟩ := compL_inv I hs xs (acc ++ [y]) (k + 1) μ' q hf'
      refine ⟨ys, μ2, ?_, by simpa [Nat.add_assoc, Nat.add_comm 1] using q2⟩
      show (if y.isCell = true then _ else compL st f xs (acc ++ [y]) μ') = _
      rw [hy]
      exact e2
/-- a loop whose body goes on -/
theorem forL_inv {st : Mu → Bool} {g : G} {b : Rho → Mu → R F} (I : Nat → Rho → Mu → Prop) (hs : ∀ k ρ μ, I k ρ μ → st μ = true) : ∀ (xs : List D) (k : Nat) (ρ : Rho) (μ : Mu), I k ρ μ →
    (∀ i ρ μ x, I (k + i) ρ μ → xs[i]? = some x → ∃ ρ1 ρ2 μ', tgt g x ρ μ = some ρ1 ∧ b ρ1 μ = .ok (.nx ρ2) μ' ∧ I (k + i + 1) ρ2 μ') →
    ∃ ρ' μ', forL st g b xs ρ μ = .ok (.nx ρ') μ' ∧ I (k + xs.length) ρ' μ'
  | [], k, ρ, μ, h, _ => ⟨ρ, μ, by simp [forL, hs k ρ μ h], h⟩
  | x :: xs, k, ρ, μ, h, hf => by
    obtain ⟨ρ1, ρ2, μ', e1, e2, q⟩ := hf 0 ρ μ x h rfl
    obtain ⟨ρ', μ2, e3, q3⟩ := forL_inv I hs xs (k + 1) ρ2 μ' q fun i ρ μ y hI hy => by
      have := hf (i + 1) ρ μ y (by rw [show k + (i + 1) = k + 1 + i by omega]; exact hI) hy
      rwa [show k + (i + 1) + 1 = k + 1 + i + 1 by omega] at this
    refine ⟨ρ', μ2, ?_, by simpa [Nat.add_assoc, Nat.add_comm 1] using q3⟩
    unfold forL
    rw [hs k ρ μ h, if_pos rfl, e1]
    dsimp only
    rw [e2]
    exact e3
/-- numbers -/
def intD (xs : List Int) : List D := xs.map .int
theorem rngD_nat (n : Nat) : rngD 0 (n : Int) = (List.range n).map fun k => .int (k : Nat) := by
  unfold rngD
  simp
theorem idxOf?_ints (x : Int) : ∀ (ys : List Int) (k : Nat), idxOf? (.int x) (ys.map .int) k = if x ∈ ys then some (k + ys.idxOf x) else none
  | [], k => by simp [idxOf?]
  | y :: r, k => by
    simp only [List.map_cons, idxOf?, eqv, idxOf?_ints x r, List.mem_cons, List.idxOf_cons]
    by_cases h : y = x
    · subst h; simp
    · have h2 : ¬ x = y := fun e => h e.symm
      simp only [h, decide_false, Bool.false_eq_true, if_false, h2, false_or]
      by_cases h3 : x ∈ r
      · simp [h3, h, beq_false_of_ne h]; omega
      · simp [h3]
theorem any_ints (x : Int) (ys : List Int) : ((ys.map D.int).any fun y => eqv y (.int x)) = decide (x ∈ ys) := by
  induction ys with
  | nil => simp
  | cons y r ih =>
    simp only [List.map_cons, List.any_cons, ih, eqv]
    by_cases h : y = x
    · subst h; simp
    · have h2 : ¬ x = y := fun e => h e.symm
      simp [h, h2]
end KP
namespace KP
open PySem L2
section
variable {T : Tab} {cx : Cxt} {n f : Nat} {d : Def} {μ : Mu}
@[simp] theorem callP_0 (a : List D) : callP cx f [] a μ = cx.cf f [] μ := rfl
@[simp] theorem callP_1 (a : D) : callP cx f [0] [a] μ = cx.cf f [a] μ := rfl
@[simp] theorem callP_2 (a b : D) : callP cx f [0, 1] [a, b] μ = cx.cf f [a, b] μ := rfl
@[simp] theorem callP_3 (a b c : D) : callP cx f [0, 1, 2] [a, b, c] μ = cx.cf f [a, b, c] μ := rfl
@[simp] theorem callP_4 (a b c d : D) : callP cx f [0, 1, 2, 3] [a, b, c, d] μ = cx.cf f [a, b, c, d] μ := rfl
@[simp] theorem cf_lev : (lev T n).cf = callF T n := rfl
@[simp] theorem T_lev : (lev T n).T = T := lev_T T n
theorem callF_run (h : T.fn f = some d) {args : List D} (ha : args.length = d.np) : callF T (n + 1) f args μ = finish d μ.length (exs (lev T n) d.body (startR d args) μ) := by
  rw [callF_succ]
  unfold runD
  rw [lev_T, h]
  exact if_pos ha
theorem leave_plain {k : Bool} {m : Nat} {v : D} (h : v.isCell = false) : leave k m v μ = .ok v (μ.take m) := by
  cases v <;> first | rfl | cases h
theorem finish_ret {d : Def} {m : Nat} {v : D} (h : v.isCell = false) : finish d m (.ok (.ret v) μ) = .ok v (μ.take m) := leave_plain h
@[simp] theorem fin_bl (d : Def) (m : Nat) (v : Bool) : finish d m (.ok (.ret (.bl v)) μ) = .ok (.bl v) (μ.take m) := rfl
@[simp] theorem fin_int (d : Def) (m : Nat) (v : Int) : finish d m (.ok (.ret (.int v)) μ) = .ok (.int v) (μ.take m) := rfl
@[simp] theorem fin_str (d : Def) (m : Nat) (v : Str) : finish d m (.ok (.ret (.str v)) μ) = .ok (.str v) (μ.take m) := rfl
@[simp] theorem fin_tup (d : Def) (m : Nat) (v : List D) : finish d m (.ok (.ret (.tup v)) μ) = .ok (.tup v) (μ.take m) := rfl
@[simp] theorem fin_lst (d : Def) (m : Nat) (v : List D) : finish d m (.ok (.ret (.lst v)) μ) = .ok (.lst v) (μ.take m) := rfl
@[simp] theorem fin_non (d : Def) (m : Nat) : finish d m (.ok (.ret .non) μ) = .ok .non (μ.take m) := rfl
@[simp] theorem fin_nx (d : Def) (m : Nat) (ρ : Rho) : finish d m (.ok (.nx ρ) μ) = .ok .non (μ.take m) := rfl
@[simp] theorem fin_exc (d : Def) (m c : Nat) (ns : List Nat) (vs : List D) : finish d m (.exc c ns vs μ) = .exc c ns vs (μ.take m) := rfl
@[simp] theorem isCell_int (i : Int) : (D.int i).isCell = false := rfl
@[simp] theorem isCell_bl (i : Bool) : (D.bl i).isCell = false := rfl
@[simp] theorem isCell_non : D.non.isCell = false := rfl
@[simp] theorem isCell_str (i : Str) : (D.str i).isCell = false := rfl
@[simp] theorem isCell_lst (i : List D) : (D.lst i).isCell = false := rfl
@[simp] theorem isCell_tup (i : List D) : (D.tup i).isCell = false := rfl
@[simp] theorem isCell_dct (k) (i : List D) : (D.dct k i).isCell = false := rfl
theorem still_plain {ds : List D} (h : ∀ d ∈ ds, d.isCell = false) (μ μ' : Mu) : still ds μ μ' = true := by
  unfold still
  rw [List.all_eq_true]
  intro d hd
  have := h d hd
  cases d <;> first | rfl | cases this
theorem tgt_nm (i : Nat) (x : D) (ρ : Rho) (μ : Mu) : tgt (.nm i) x ρ μ = some (ρ.set i (some x)) := rfl
/-- a turn with no test -/
theorem turn0 {ow : List Nat} {elt : E} {i : Nat} {ρ : Rho} {x y : D} {μ' : Mu} (h : ev cx elt ((wipeR ρ ow).set i (some x)) μ = .ok y μ') : turnC cx ow elt (.nm i) [] ρ x μ = .ok (some y) μ' := by
  unfold turnC
  rw [tgt_nm]
  dsimp only
  rw [evc_nil, R.ok_bind]
  dsimp only
  rw [h]
  rfl
/-- a turn with a test -/
theorem turn1 {ow : List Nat} {elt c : E} {i : Nat} {ρ : Rho} {x y : D} {k : Bool} {μ1 μ' : Mu} (hc : evb cx c ((wipeR ρ ow).set i (some x)) μ = .ok k μ1) (h : k = true → ev cx elt ((wipeR ρ ow).set i (some x)) μ1 = .ok y μ') : turnC cx ow elt (.nm i) [c] ρ x μ = .ok (if k then some y else none) (if k then μ' else μ1) := by
  unfold turnC
  rw [tgt_nm]
  dsimp only
  rw [evc_cons', hc, R.ok_bind]
  cases k with
  | true =>
    rw [iteB_t, evc_nil, R.ok_bind]
    dsimp only
    rw [h rfl]
    rfl
  | false => rfl
@[simp] theorem wipe_1 (ρ : Rho) (i : Nat) : wipeR ρ [i] = ρ.set i none := rfl
@[simp] theorem wipe_0 (ρ : Rho) : wipeR ρ [] = ρ := rfl
/-- a loop whose body may hand back a set answer -/
theorem forL_test {st : Mu → Bool} {g : G} {b : Rho → Mu → R F} {μ : Mu} (I : Rho → Prop) (p : D → Bool) (v : D) (hs : st μ = true) : ∀ (xs : List D) (ρ : Rho), I ρ →
    (∀ ρ x, I ρ → x ∈ xs → ∃ ρ1 ρ2, tgt g x ρ μ = some ρ1 ∧ b ρ1 μ = .ok (if p x then .nx ρ2 else .ret v) μ ∧ I ρ2) →
    ∃ ρ', forL st g b xs ρ μ = .ok (if xs.all p then .nx ρ' else .ret v) μ ∧ I ρ'
  | [], ρ, h, _ => ⟨ρ, by simp [forL, hs], h⟩
  | x :: xs, ρ, h, hf => by
    obtain ⟨ρ1, ρ2, e1, e2, q⟩ := hf ρ x h (by simp)
    obtain ⟨ρ', e3, q3⟩ := forL_test I p v hs xs ρ2 q fun ρ y hI hy => hf ρ y hI (List.mem_cons_of_mem _ hy)
    refine ⟨ρ', ?_, q3⟩
    unfold forL
    rw [hs, if_pos rfl, e1]
    dsimp only
    rw [e2]
    cases hp : p x with
    | true =>
      simp only [List.all_cons, hp, Bool.true_and, if_true]
      exact e3
    | false => simp [hp]
@[simp] theorem lstR_ok (ys : List D) : lstR (.ok ys μ) = .ok (.lst ys) μ := rfl
theorem any_plain {vs : List D} (h : ∀ d ∈ vs, d.isCell = false) : anyCell vs = false := by
  unfold anyCell
  rw [List.any_eq_false]
  intro d hd
  rw [h d hd]
  simp
@[simp] theorem itD_lst (a : List D) : itD .seq [.lst a] μ = some a := rfl
@[simp] theorem itD_tup (a : List D) : itD .seq [.tup a] μ = some a := rfl
theorem itD_of {a : D} {xs : List D} (h : seqOf μ a = some xs) : itD .seq [a] μ = some xs := by
  cases a <;> first | exact h | cases h
theorem itD_rng {n : Nat} (h : n ≤ 16777216) : itD .rng1 [.int (n : Nat)] μ = some (rngD 0 n) := by
  unfold itD
  exact if_pos ⟨by unfold LN; omega, by unfold LN; omega⟩
theorem itD_rngI {i : Int} (h : i ≤ 16777216) (h0 : 0 ≤ i) : itD .rng1 [.int i] μ = some (rngD 0 i) := by
  unfold itD
  exact if_pos ⟨by unfold LN; omega, by unfold LN; omega⟩
@[simp] theorem rngD_len (i : Int) : (rngD 0 i).length = i.toNat := by
  unfold rngD
  simp
@[simp] theorem eqD_int (i j : Int) : eqD cx (.int i) (.int j) μ = .ok (decide (i = j)) μ := by
  rw [w_eqD_dat rfl rfl]; rfl
@[simp] theorem eqD_bl (i j : Bool) : eqD cx (.bl i) (.bl j) μ = .ok (i == j) μ := by
  rw [w_eqD_dat rfl rfl]; rfl
@[simp] theorem eqD_tupI (i j : List Int) : eqD cx (.tup (i.map .int)) (.tup (j.map .int)) μ = .ok (decide (i = j)) μ := by
  rw [w_eqD_dat (by simp [dat, datL_ints]) (by simp [dat, datL_ints])]
  simp only [nrm_tup, eqv, eqvL_ints]
@[simp] theorem eqD_lstI (i j : List Int) : eqD cx (.lst (i.map .int)) (.lst (j.map .int)) μ = .ok (decide (i = j)) μ := by
  rw [w_eqD_dat (by simp [dat, datL_ints]) (by simp [dat, datL_ints])]
  simp only [nrm_lst, eqv, eqvL_ints]
end
end KP
namespace KP
open PySem L2
section
variable {T : Tab} {cx : Cxt} {n : Nat} {ρ : Rho} {μ : Mu}
/-- o.f = d -/
def stfR (cx : Cxt) (f : Nat) (d x : D) (ρ : Rho) (μ : Mu) : R F := match x with
  | .cell n => (match μ[n]? with
    | some (.ins c ns vs) => if d.isCell then .stuck else if ns.length < 900 ∧ hasF cx false c f = true then .ok (.nx ρ) (μ.set n (.ins c (put ns vs f d).1 (put ns vs f d).2)) else .stuck
    | _ => .stuck)
  | _ => .stuck
@[simp] theorem ex_stf (o : E) (f : Nat) (e : E) : ex cx (.stf o f e) ρ μ = (ev cx e ρ μ).bind fun d μ => (ev cx o ρ μ).bind fun x μ => stfR cx f d x ρ μ := by
  exact bind_eq fun d μ => bind_eq fun y μ => by cases y <;> rfl
theorem stf_cell {m c f : Nat} {ns : List Nat} {vs : List D} {d : D} (h : μ[m]? = some (.ins c ns vs)) (hd : d.isCell = false) (hl : ns.length < 900) (hF : hasF cx false c f = true) : stfR cx f d (.cell m) ρ μ = .ok (.nx ρ) (μ.set m (.ins c (put ns vs f d).1 (put ns vs f d).2)) := by
  unfold stfR
  dsimp only
  rw [h]
  dsimp only
  rw [hd, if_neg (by simp), if_pos ⟨hl, hF⟩]
theorem hasF_lev (b : Bool) (c f : Nat) : hasF (lev T n) b c f = match T.cl c with
  | some i => decide (f ∈ i.flds) && (if b then decide (i.kind = 2) else decide (i.kind < 2))
  | none => false := by
  unfold hasF
  rw [lev_T]
  try (cases T.cl c <;> rfl)
theorem fld_obj {c f : Nat} {ns : List Nat} {vs : List D} {v : D} (hF : hasF cx false c f = true) (hl : lk ns vs f = some v) : fldD cx f (.obj c ns vs) μ = .ok v μ := by
  unfold fldD fldO
  dsimp only
  rw [hF, if_pos rfl, hl]
theorem fld_cell {m c f : Nat} {ns : List Nat} {vs : List D} {v : D} (h : μ[m]? = some (.ins c ns vs)) (hF : hasF cx false c f = true) (hl : lk ns vs f = some v) : fldD cx f (.cell m) μ = .ok v μ := by
  unfold fldD fldO
  dsimp only
  rw [h]
  dsimp only
  rw [hF, if_pos rfl, hl]
theorem met_lev {m c f : Nat} {ns : List Nat} {d : D} {i : ClsI} (h : insOf μ d = some (c, ns)) (hm : m ∉ ns) (hc : T.cl c = some i) (hf : i.meths.lookup m = some f) : metF (lev T n) m d μ = some f := by
  unfold metF
  rw [h]
  dsimp only
  rw [if_neg hm]
  unfold methOf
  rw [lev_T, hc]
  exact hf
theorem ins_cell {m c : Nat} {ns : List Nat} {vs : List D} (h : μ[m]? = some (.ins c ns vs)) : insOf μ (.cell m) = some (c, ns) := by
  unfold insOf
  dsimp only
  rw [h]
/-- the method is called -/
def mthR (cx : Cxt) (o : Option Nat) (es : List E) (pm : List Nat) (d : D) (ρ : Rho) (μ : Mu) : R D := match o with
  | some f => (evs cx es ρ μ).bind fun vs μ => callP cx f pm (d :: vs) μ
  | none => .stuck
@[simp] theorem mthR_some (f : Nat) (es : List E) (pm : List Nat) (d : D) : mthR cx (some f) es pm d ρ μ = (evs cx es ρ μ).bind fun vs μ => callP cx f pm (d :: vs) μ := rfl
@[simp] theorem z_mth (m : Nat) (e : E) (es : List E) (pm : List Nat) : ev cx (.mth m e es pm) ρ μ = (ev cx e ρ μ).bind fun d μ => mthR cx (metF cx m d μ) es pm d ρ μ := by
  rw [ev_mth]
  exact bind_eq fun d μ => by cases metF cx m d μ <;> rfl
@[simp] theorem z_mk (c : Nat) (es : List E) (pm : List Nat) : ev cx (.mk c es pm) ρ μ = (evs cx es ρ μ).bind fun vs μ => makeP cx c pm vs μ := rfl
@[simp] theorem makeP_1 (c : Nat) (a : D) : makeP cx c [0] [a] μ = cx.mkc c [a] μ := rfl
@[simp] theorem makeP_2 (c : Nat) (a b : D) : makeP cx c [0, 1] [a, b] μ = cx.mkc c [a, b] μ := rfl
@[simp] theorem makeP_21 (c : Nat) (a b : D) : makeP cx c [1, 0] [a, b] μ = cx.mkc c [b, a] μ := rfl
/-- an instance that is made and left as it is -/
theorem mk_0 {c f : Nat} {i : ClsI} (hc : T.cl c = some i) (hk : i.kind = 0) (hi : i.init = some f) {args : List D} {ns : List Nat} {vs : List D} (h : callF T n f (.cell μ.length :: args) (μ ++ [.ins c [] []]) = .ok .non (μ ++ [.ins c ns vs])) : (lev T (n + 1)).mkc c args μ = .ok (.obj c ns vs) μ := by
  show makeC T (callF T n) c args μ = _
  unfold makeC
  rw [hc]
  dsimp only
  rw [hi]
  dsimp only
  rw [h, R.ok_bind]
  simp [hk]
theorem mk_1 {c f : Nat} {i : ClsI} (hc : T.cl c = some i) (hk : i.kind = 1) (hi : i.init = some f) {args : List D} {ns : List Nat} {vs : List D} (h : callF T n f (.cell μ.length :: args) (μ ++ [.ins c [] []]) = .ok .non (μ ++ [.ins c ns vs])) : (lev T (n + 1)).mkc c args μ = .ok (.cell μ.length) (μ ++ [.ins c ns vs]) := by
  show makeC T (callF T n) c args μ = _
  unfold makeC
  rw [hc]
  dsimp only
  rw [hi]
  dsimp only
  rw [h, R.ok_bind]
  simp [hk]
@[simp] theorem ex_whl (c : E) (b : List S) : ex cx (.whl c b) ρ μ = whlL (fun ρ μ => evb cx c ρ μ) (bodyL cx b) WF ρ μ := rfl
/-- a list, a tuple, a list that changes, of these -/
def isA (a : D) (xs : List D) (μ : Mu) : Prop := a = .lst xs ∨ a = .tup xs ∨ ∃ n, a = .cell n ∧ μ[n]? = some (.lst xs)
theorem isA.seq {a : D} {xs : List D} (h : isA a xs μ) : seqOf μ a = some xs := by
  rcases h with rfl | rfl | ⟨n, rfl, h⟩
  · rfl
  · rfl
  · exact seq_cell h
theorem isA.it {a : D} {xs : List D} (h : isA a xs μ) : itD .seq [a] μ = some xs := itD_of h.seq
theorem isA.len {a : D} {xs : List D} (h : isA a xs μ) : lenD a μ = .ok (.int (xs.length : Nat)) μ := by
  rcases h with rfl | rfl | ⟨n, rfl, h⟩
  · rfl
  · rfl
  · exact len_cell h
theorem isA.ty {a : D} {xs : List D} (h : isA a xs μ) : tyAny cx μ a [.list, .tuple] = some true := by
  rcases h with rfl | rfl | ⟨n, rfl, h⟩
  · rfl
  · rfl
  · simp [tyAny, tyIs, h, tyB]
theorem still_same (ds : List D) (μ : Mu) : still ds μ μ = true := by
  unfold still
  rw [List.all_eq_true]
  intro d _
  cases d <;> first | rfl | simp
theorem isA.ext {a : D} {xs : List D} (h : isA a xs μ) (ν : Mu) : isA a xs (μ ++ ν) := by
  rcases h with rfl | rfl | ⟨n, rfl, h⟩
  · exact .inl rfl
  · exact .inr (.inl rfl)
  · exact .inr (.inr ⟨n, rfl, by rw [List.getElem?_append_left (List.getElem?_eq_some_iff.mp h).1]; exact h⟩)
theorem set_last {α : Type} (μ : List α) (x y : α) : (μ ++ [x]).set μ.length y = μ ++ [y] := by
  induction μ with
  | nil => rfl
  | cons a r ih => simp [ih]
theorem get_last {α : Type} (μ : List α) (x : α) : (μ ++ [x])[μ.length]? = some x := by simp
end
end KP
end

section
set_option maxRecDepth 100000
set_option maxHeartbeats 4000000
/-! KPV: what the drawing functions do. -/
namespace KP
open PySem L2
/-- what draws: the cells, how many were begun, what is left -/
def hatM (cs : List Int) (t r : Int) : M := .lst [.lst (cs.map .int), .int t, .int r]
/-- int(e), or e -/
def tw (b : Bool) (e : E) : E := if b then .op .toi [e] else e
@[simp] theorem tw_t (e : E) : tw true e = .op .toi [e] := rfl
@[simp] theorem tw_f (e : E) : tw false e = e := rfl
/-- a law's own drawing function -/
def dPull (b1 b2 b3 b4 : Bool) (k0 k1 k2 k3 k4 m0 m1 m2 : Int) : Def := ⟨2, 6, false, [.ife (.op .gt [.op .idx [.v 0, .c (.int 2)], .c (.int 0)]) [.set 5 (tw b1 (.op .idx [.v 0, .c (.int 2)])), .sti (.v 0) (.c (.int 2)) (.op .fdiv [tw b2 (.v 5), .v 1]), .ret (.op .mod [.op .toi [.v 5], .v 1])] [], .set 2 (.op .idx [.v 0, .c (.int 1)]), .sti (.v 0) (.c (.int 1)) (.op .add [.v 2, .c (.int 1)]), .set 3 (.op .add [.op .mul [.c (.int k0), .v 2], .c (.int k1)]), .ife (.op .ne [.op .idx [.v 0, .c (.int 0)], .lst []]) [.set 3 (.op .idx [.op .idx [.v 0, .c (.int 0)], .op .mod [.op .toi [.v 2], .op .len [.op .idx [.v 0, .c (.int 0)]]]])] [], .ife (.and (.op .lt [.v 2, .op .len [.op .idx [.v 0, .c (.int 0)]]]) (.op .ge [.op .abs [.v 3], .op .pow [.c (.int 10), .c (.int 18)]])) [.set 5 (.op .add [.op .mul [.c (.int 2), .op .sub [.op .abs [tw b3 (.v 3)], .op .pow [.c (.int 10), .c (.int 18)]]], .op .toi [.op .lt [.v 3, .c (.int 0)]]]), .sti (.v 0) (.c (.int 2)) (.op .fdiv [tw b4 (.v 5), .v 1]), .ret (.op .mod [.op .toi [.v 5], .v 1])] [], .set 4 (.op .mod [.op .toi [.op .pow [.op .add [.op .add [.op .mod [.op .toi [.v 3], .c (.int m0)], .op .mul [.c (.int k2), .v 2]], .c (.int k1)], .c (.int 5)]], .c (.int m1)]), .set 4 (.op .mod [.op .toi [.op .pow [.op .add [.op .add [.op .mul [.v 4, .op .add [.op .mul [.c (.int 2), .v 2], .c (.int k3)]], .op .mul [.op .mul [.c (.int k0), .v 2], .v 2]], .c (.int k4)], .c (.int 3)]], .c (.int m2)]), .ret (.op .mod [.op .toi [.op .fdiv [.v 4, .c (.int 64)]], .v 1])]⟩
/-- where one draw leads -/
def Drawn (cs : List Int) (t m : Int) (μ : Mu) (k : D) (μ' : Mu) : Prop := ∃ x t' r', k = .int x ∧ μ' = hatM cs t' r' :: μ ∧ 0 ≤ x ∧ x < m ∧ t ≤ t' ∧ t' ≤ t + 1 ∧ 0 ≤ r'
/-- within bounds -/
abbrev small (k : Int) : Prop := 0 ≤ k ∧ k < 2 ^ 20
abbrev big31 (k : Int) : Prop := 0 < k ∧ k < 2 ^ 31 + 1
section
variable {T : Tab} {f n : Nat} {b1 b2 b3 b4 : Bool} {k0 k1 k2 k3 k4 m0 m1 m2 : Int}
theorem pull_1 {cx : Cxt} {cs : List Int} {t r m : Int} {μ : Mu} (s : List S) (hm : 0 < m ∧ m < 1073741824) (hr : 0 < r) :
    exs cx (.ife (.op .gt [.op .idx [.v 0, .c (.int 2)], .c (.int 0)]) [.set 5 (tw b1 (.op .idx [.v 0, .c (.int 2)])), .sti (.v 0) (.c (.int 2)) (.op .fdiv [tw b2 (.v 5), .v 1]), .ret (.op .mod [.op .toi [.v 5], .v 1])] [] :: s) [some (.cell 0), some (.int m), none, none, none, none] (hatM cs t r :: μ) = .ok (.ret (.int (r % m))) (hatM cs t (r / m) :: μ) := by
  have h0 : ∀ r : Int, (hatM cs t r :: μ)[0]? = some (.lst [.lst (cs.map .int), .int t, .int r]) := fun _ => rfl
  have i2 : ∀ r : Int, idxD (.cell 0) (.int 2) (hatM cs t r :: μ) = .ok (.int r) (hatM cs t r :: μ) := fun r => idx_cell (h0 r) (by omega) rfl
  have s2 : ∀ r r' : Int, setL (.cell 0) (.int 2) (.int r') (hatM cs t r :: μ) = some (hatM cs t r' :: μ) := fun r r' => by
    rw [setL_cell rfl (h0 r) (by omega) (by simp)]
    rfl
  cases b1 <;> cases b2 <;> simp [i2, s2, hr, hm]
/-- the last steps: two mixings -/
theorem pull_mix {cx : Cxt} {t c m : Int} {μ : Mu} {x y z : Option D} (hm : 0 < m) (ht : 0 ≤ t ∧ t < 2 ^ 20) (hk0 : small k0) (hk1 : small k1) (hk2 : small k2) (hk3 : small k3) (hk4 : small k4) (hm0 : big31 m0) (hm1 : big31 m1) (hm2 : big31 m2) :
    ∃ u : Int, exs cx [.set 4 (.op .mod [.op .toi [.op .pow [.op .add [.op .add [.op .mod [.op .toi [.v 3], .c (.int m0)], .op .mul [.c (.int k2), .v 2]], .c (.int k1)], .c (.int 5)]], .c (.int m1)]), .set 4 (.op .mod [.op .toi [.op .pow [.op .add [.op .add [.op .mul [.v 4, .op .add [.op .mul [.c (.int 2), .v 2], .c (.int k3)]], .op .mul [.op .mul [.c (.int k0), .v 2], .v 2]], .c (.int k4)], .c (.int 3)]], .c (.int m2)]), .ret (.op .mod [.op .toi [.op .fdiv [.v 4, .c (.int 64)]], .v 1])] [x, some (.int m), some (.int t), some (.int c), y, z] μ = .ok (.ret (.int (u % m))) μ := by
  obtain ⟨a0, b0⟩ := hk0
  obtain ⟨a1, b1⟩ := hk1
  obtain ⟨a2, b2⟩ := hk2
  obtain ⟨a3, b3⟩ := hk3
  obtain ⟨a4, b4⟩ := hk4
  obtain ⟨p0, q0⟩ := hm0
  obtain ⟨p1, q1⟩ := hm1
  obtain ⟨p2, q2⟩ := hm2
  obtain ⟨t0, t1⟩ := ht
  have hmul : ∀ (a b : Int) (μ : Mu), (-(2 ^ 64) < a ∧ a < 2 ^ 64) → mulD (.int a) (.int b) μ = .ok (.int (a * b)) μ := fun a b μ h => by
    rw [mul_int, if_pos (.inl h)]
  have e1 : ∀ μ, mulD (.int k2) (.int t) μ = .ok (.int (k2 * t)) μ := fun μ => hmul _ _ _ (by omega)
  have e2 : ∀ μ, mulD (.int 2) (.int t) μ = .ok (.int (2 * t)) μ := fun μ => hmul _ _ _ (by omega)
  have e3 : ∀ μ, mulD (.int k0) (.int t) μ = .ok (.int (k0 * t)) μ := fun μ => hmul _ _ _ (by omega)
  have k2t : 0 ≤ k2 * t ∧ k2 * t ≤ 2 ^ 20 * 2 ^ 20 := ⟨Int.mul_nonneg a2 t0, Int.mul_le_mul (by omega) (by omega) t0 (by omega)⟩
  have k0t : 0 ≤ k0 * t ∧ k0 * t ≤ 2 ^ 20 * 2 ^ 20 := ⟨Int.mul_nonneg a0 t0, Int.mul_le_mul (by omega) (by omega) t0 (by omega)⟩
  have k0tt : 0 ≤ k0 * t * t ∧ k0 * t * t ≤ (2 ^ 20 * 2 ^ 20) * 2 ^ 21 ∨ True := .inr trivial
  have e4 : ∀ μ, mulD (.int (k0 * t)) (.int t) μ = .ok (.int (k0 * t * t)) μ := fun μ => hmul _ _ _ (by omega)
  have r0 := Int.emod_nonneg c (show m0 ≠ 0 by omega)
  have r1 := Int.emod_lt_of_pos c p0
  generalize hu1 : (c % m0 + k2 * t + k1) = u1
  have hu : 0 ≤ u1 ∧ u1 < 2 ^ 64 := by omega
  have c1 : u1.natAbs < 2 ^ 64 := by omega
  generalize hx : u1 ^ 5 % m1 = x4
  have g0 : 0 ≤ x4 := by rw [← hx]; exact Int.emod_nonneg _ (by omega)
  have g1 : x4 < m1 := by rw [← hx]; exact Int.emod_lt_of_pos _ p1
  have e5 : ∀ μ, mulD (.int x4) (.int (2 * t + k3)) μ = .ok (.int (x4 * (2 * t + k3))) μ := fun μ => hmul _ _ _ (by omega)
  have m4 : 0 ≤ x4 * (2 * t + k3) ∧ x4 * (2 * t + k3) ≤ 2 ^ 31 * 2 ^ 24 := ⟨Int.mul_nonneg g0 (by omega), Int.mul_le_mul (by omega) (by omega) (by omega) (by omega)⟩
  have m5 : 0 ≤ k0 * t * t ∧ k0 * t * t ≤ (2 ^ 20 * 2 ^ 20) * 2 ^ 20 := ⟨Int.mul_nonneg k0t.1 t0, Int.mul_le_mul k0t.2 (by omega) t0 (by omega)⟩
  generalize hu2 : x4 * (2 * t + k3) + k0 * t * t + k4 = u2
  have c2 : u2.natAbs < 2 ^ 64 := by omega
  refine ⟨(u2 ^ 3 % m2) / 64, ?_⟩
  simp [-mul_int, e1, e2, e3, e4, hu1, c1, p0, p1, p2, hx, e5, hu2, c2, hm]
/-- a draw -/
theorem pull_spec (hf : T.fn f = some (dPull b1 b2 b3 b4 k0 k1 k2 k3 k4 m0 m1 m2)) {cs : List Int} {t r m : Int} {μ : Mu} (hm : 0 < m ∧ m < 1073741824) (ht : 0 ≤ t ∧ t < 2 ^ 20) (hr : 0 ≤ r) (hk0 : small k0) (hk1 : small k1) (hk2 : small k2) (hk3 : small k3) (hk4 : small k4) (hm0 : big31 m0) (hm1 : big31 m1) (hm2 : big31 m2) :
    ∃ k μ', callF T (n + 1) f [.cell 0, .int m] (hatM cs t r :: μ) = .ok k μ' ∧ Drawn cs t m μ k μ' := by
  have md : ∀ u : Int, 0 ≤ u % m ∧ u % m < m := fun u => ⟨Int.emod_nonneg _ (by omega), Int.emod_lt_of_pos _ hm.1⟩
  suffices h : ∃ u t' r', exs (lev T n) (dPull b1 b2 b3 b4 k0 k1 k2 k3 k4 m0 m1 m2).body [some (.cell 0), some (.int m), none, none, none, none] (hatM cs t r :: μ) = .ok (.ret (.int (u % m))) (hatM cs t' r' :: μ) ∧ t ≤ t' ∧ t' ≤ t + 1 ∧ 0 ≤ r' by
    obtain ⟨u, t', r', e, h1, h2, h3⟩ := h
    refine ⟨_, _, ?_, u % m, t', r', rfl, rfl, (md u).1, (md u).2, h1, h2, h3⟩
    rw [callF_succ]
    unfold runD
    rw [lev_T, hf]
    show finish _ _ (exs _ _ [some (.cell 0), some (.int m), none, none, none, none] _) = _
    rw [e]
    simp [finish, leave, dPull]
  unfold dPull
  dsimp only
  by_cases h0 : 0 < r
  · exact ⟨_, _, _, pull_1 _ hm h0, by omega, by omega, Int.ediv_nonneg hr (by omega)⟩
  have hr0 : r = 0 := by omega
  subst hr0
  have g0 : ∀ t r : Int, (hatM cs t r :: μ)[0]? = some (.lst [.lst (cs.map .int), .int t, .int r]) := fun _ _ => rfl
  have i0 : ∀ t r : Int, idxD (.cell 0) (.int 0) (hatM cs t r :: μ) = .ok (.lst (cs.map .int)) (hatM cs t r :: μ) := fun t r => idx_cell (g0 t r) (by omega) rfl
  have i1 : ∀ t r : Int, idxD (.cell 0) (.int 1) (hatM cs t r :: μ) = .ok (.int t) (hatM cs t r :: μ) := fun t r => idx_cell (g0 t r) (by omega) rfl
  have i2 : ∀ t r : Int, idxD (.cell 0) (.int 2) (hatM cs t r :: μ) = .ok (.int r) (hatM cs t r :: μ) := fun t r => idx_cell (g0 t r) (by omega) rfl
  have s2 : ∀ t r r' : Int, setL (.cell 0) (.int 2) (.int r') (hatM cs t r :: μ) = some (hatM cs t r' :: μ) := fun t r r' => by
    rw [setL_cell rfl (g0 t r) (by omega) (by simp)]
    rfl
  have s1 : ∀ t r t' : Int, setL (.cell 0) (.int 1) (.int t') (hatM cs t r :: μ) = some (hatM cs t' r :: μ) := fun t r r' => by
    rw [setL_cell rfl (g0 t r) (by omega) (by simp)]
    rfl
  have hmul : ∀ (a b : Int) (μ : Mu), (-(2 ^ 64) < a ∧ a < 2 ^ 64) → mulD (.int a) (.int b) μ = .ok (.int (a * b)) μ := fun a b μ h => by
    rw [mul_int, if_pos (.inl h)]
  have b0 := hk0.1
  have b0' := hk0.2
  have e1 : ∀ μ, mulD (.int k0) (.int t) μ = .ok (.int (k0 * t)) μ := fun μ => hmul _ _ _ (by omega)
  have q : ∀ μ, eqD (lev T n) (.lst (cs.map .int)) (.lst []) μ = .ok (decide (cs = [])) μ := fun μ => by
    rw [w_eqD_dat (by simp [dat, datL_ints]) (by simp [dat, datL])]
    rw [nrm_lst, nrm_lst, eqv]
    have := eqvL_ints cs []
    rw [show ([] : List Int).map D.int = [] from rfl] at this
    rw [this]
  -- the cell
  obtain ⟨c, hc⟩ : ∃ c : Int, ∀ (s : List S) (y z : Option D), exs (lev T n) (.ife (.op .ne [.op .idx [.v 0, .c (.int 0)], .lst []]) [.set 3 (.op .idx [.op .idx [.v 0, .c (.int 0)], .op .mod [.op .toi [.v 2], .op .len [.op .idx [.v 0, .c (.int 0)]]]])] [] :: s) [some (.cell 0), some (.int m), some (.int t), some (.int (k0 * t + k1)), y, z] (hatM cs (t + 1) 0 :: μ) = exs (lev T n) s [some (.cell 0), some (.int m), some (.int t), some (.int c), y, z] (hatM cs (t + 1) 0 :: μ) := by
    by_cases hcs : cs = []
    · refine ⟨k0 * t + k1, fun s y z => ?_⟩
      have q1 : ∀ μ, eqD (lev T n) (.lst (cs.map .int)) (.lst []) μ = .ok true μ := fun μ => by rw [q, decide_eq_true hcs]
      simp [i0, q1, mkLst, anyCell, iteB_f]
    · have hl : 0 < (cs.length : Int) := by
        have := List.length_pos_iff.mpr hcs
        omega
      have r0 := Int.emod_nonneg t (show (cs.length : Int) ≠ 0 by omega)
      have r1 := Int.emod_lt_of_pos t hl
      have hk : (t % cs.length).toNat < cs.length := by omega
      have ii : ∀ μ, idxD (.lst (cs.map .int)) (.int (t % cs.length)) μ = .ok (.int cs[(t % cs.length).toNat]) μ := fun μ => idx_lst r0 (by simp [hk])
      refine ⟨cs[(t % cs.length).toNat], fun s y z => ?_⟩
      have q1 : ∀ μ, eqD (lev T n) (.lst (cs.map .int)) (.lst []) μ = .ok false μ := fun μ => by rw [q, decide_eq_false hcs]
      have hl' : 0 < cs.length := by omega
      simp [i0, q1, mkLst, anyCell, hl', ii]
  -- a great one, or not
  have key : ∀ y z : Option D, ∃ u r' : Int, exs (lev T n) [.ife (.and (.op .lt [.v 2, .op .len [.op .idx [.v 0, .c (.int 0)]]]) (.op .ge [.op .abs [.v 3], .op .pow [.c (.int 10), .c (.int 18)]])) [.set 5 (.op .add [.op .mul [.c (.int 2), .op .sub [.op .abs [tw b3 (.v 3)], .op .pow [.c (.int 10), .c (.int 18)]]], .op .toi [.op .lt [.v 3, .c (.int 0)]]]), .sti (.v 0) (.c (.int 2)) (.op .fdiv [tw b4 (.v 5), .v 1]), .ret (.op .mod [.op .toi [.v 5], .v 1])] [], .set 4 (.op .mod [.op .toi [.op .pow [.op .add [.op .add [.op .mod [.op .toi [.v 3], .c (.int m0)], .op .mul [.c (.int k2), .v 2]], .c (.int k1)], .c (.int 5)]], .c (.int m1)]), .set 4 (.op .mod [.op .toi [.op .pow [.op .add [.op .add [.op .mul [.v 4, .op .add [.op .mul [.c (.int 2), .v 2], .c (.int k3)]], .op .mul [.op .mul [.c (.int k0), .v 2], .v 2]], .c (.int k4)], .c (.int 3)]], .c (.int m2)]), .ret (.op .mod [.op .toi [.op .fdiv [.v 4, .c (.int 64)]], .v 1])] [some (.cell 0), some (.int m), some (.int t), some (.int c), y, z] (hatM cs (t + 1) 0 :: μ) = .ok (.ret (.int (u % m))) (hatM cs (t + 1) r' :: μ) ∧ 0 ≤ r' := fun y z => by
    obtain ⟨v, hv⟩ := pull_mix (cx := lev T n) (t := t) (c := c) (m := m) (μ := hatM cs (t + 1) 0 :: μ) (x := some (.cell 0)) (y := y) (z := z) hm.1 ht hk0 hk1 hk2 hk3 hk4 hm0 hm1 hm2
    by_cases h1 : t < (cs.length : Int)
    · generalize ha : (if c < 0 then -c else c) = ab
      by_cases h2 : (1000000000000000000 : Int) ≤ ab
      · refine ⟨2 * (ab - 1000000000000000000) + (if c < 0 then 1 else 0), (2 * (ab - 1000000000000000000) + (if c < 0 then 1 else 0)) / m, ?_, ?_⟩
        · have em : ∀ b μ, mulD (.int 2) (.int b) μ = .ok (.int (2 * b)) μ := fun b μ => hmul _ _ _ (by omega)
          cases b3 <;> cases b4 <;> simp [-mul_int, i0, h1, ha, h2, em, s2, hm]
        · exact Int.ediv_nonneg (by split <;> omega) (by omega)
      · refine ⟨v, 0, ?_, by omega⟩
        rw [w_exs_cons]
        have : ∀ a b : List S, ex (lev T n) (.ife (.and (.op .lt [.v 2, .op .len [.op .idx [.v 0, .c (.int 0)]]]) (.op .ge [.op .abs [.v 3], .op .pow [.c (.int 10), .c (.int 18)]])) a []) [some (.cell 0), some (.int m), some (.int t), some (.int c), y, z] (hatM cs (t + 1) 0 :: μ) = .ok (.nx [some (.cell 0), some (.int m), some (.int t), some (.int c), y, z]) (hatM cs (t + 1) 0 :: μ) := fun a b => by
          simp [i0, h1, ha, h2, iteB_f]
        rw [this _ []]
        exact hv
    · refine ⟨v, 0, ?_, by omega⟩
      rw [w_exs_cons]
      have : ∀ a b : List S, ex (lev T n) (.ife (.and (.op .lt [.v 2, .op .len [.op .idx [.v 0, .c (.int 0)]]]) (.op .ge [.op .abs [.v 3], .op .pow [.c (.int 10), .c (.int 18)]])) a []) [some (.cell 0), some (.int m), some (.int t), some (.int c), y, z] (hatM cs (t + 1) 0 :: μ) = .ok (.nx [some (.cell 0), some (.int m), some (.int t), some (.int c), y, z]) (hatM cs (t + 1) 0 :: μ) := fun a b => by
        simp [i0, h1, iteB_f]
      rw [this _ []]
      exact hv
  obtain ⟨u, r', e, h⟩ := key none none
  refine ⟨u, t + 1, r', ?_, by omega, by omega, h⟩
  rw [← e, ← hc]
  -- the first steps
  rw [w_exs_cons]
  have f1 : ∀ a, ex (lev T n) (.ife (.op .gt [.op .idx [.v 0, .c (.int 2)], .c (.int 0)]) a []) [some (.cell 0), some (.int m), none, none, none, none] (hatM cs t 0 :: μ) = .ok (.nx [some (.cell 0), some (.int m), none, none, none, none]) (hatM cs t 0 :: μ) := fun a => by
    simp [i2, iteB_f]
  rw [f1, R.ok_bind, onF_nx, w_exs_cons]
  have f2 : ex (lev T n) (.set 2 (.op .idx [.v 0, .c (.int 1)])) [some (.cell 0), some (.int m), none, none, none, none] (hatM cs t 0 :: μ) = .ok (.nx [some (.cell 0), some (.int m), some (.int t), none, none, none]) (hatM cs t 0 :: μ) := by
    simp [i1]
  rw [f2, R.ok_bind, onF_nx, w_exs_cons]
  have f3 : ex (lev T n) (.sti (.v 0) (.c (.int 1)) (.op .add [.v 2, .c (.int 1)])) [some (.cell 0), some (.int m), some (.int t), none, none, none] (hatM cs t 0 :: μ) = .ok (.nx [some (.cell 0), some (.int m), some (.int t), none, none, none]) (hatM cs (t + 1) 0 :: μ) := by
    simp [s1]
  rw [f3, R.ok_bind, onF_nx, w_exs_cons]
  have f4 : ∀ μ, ex (lev T n) (.set 3 (.op .add [.op .mul [.c (.int k0), .v 2], .c (.int k1)])) [some (.cell 0), some (.int m), some (.int t), none, none, none] μ = .ok (.nx [some (.cell 0), some (.int m), some (.int t), some (.int (k0 * t + k1)), none, none]) μ := fun μ => by
    simp [-mul_int, e1]
  rw [f4, R.ok_bind, onF_nx]
end
end KP
namespace KP
open PySem L2
section
variable {T : Tab} {f p n : Nat}
/-- the def p draws -/
def Puller (T : Tab) (p : Nat) : Prop := ∃ b1 b2 b3 b4 k0 k1 k2 k3 k4 m0 m1 m2, T.fn p = some (dPull b1 b2 b3 b4 k0 k1 k2 k3 k4 m0 m1 m2) ∧ small k0 ∧ small k1 ∧ small k2 ∧ small k3 ∧ small k4 ∧ big31 m0 ∧ big31 m1 ∧ big31 m2
/-- what draws stands first in the store; b at most were begun -/
def Hat (b : Nat) (tl μ : Mu) : Prop := ∃ cs t r, μ = hatM cs t r :: tl ∧ 0 ≤ t ∧ t ≤ (b : Int) ∧ 0 ≤ r
theorem Hat.mono {b c : Nat} {tl μ : Mu} (h : Hat b tl μ) (hb : b ≤ c) : Hat c tl μ := by
  obtain ⟨cs, t, r, e, h1, h2, h3⟩ := h
  exact ⟨cs, t, r, e, h1, by omega, h3⟩
theorem Hat.len {b : Nat} {tl μ : Mu} (h : Hat b tl μ) : μ.length = tl.length + 1 := by
  obtain ⟨cs, t, r, e, _⟩ := h
  rw [e]; rfl
/-- a draw below m -/
theorem pull_H (P : Puller T p) {b : Nat} {tl μ : Mu} (H : Hat b tl μ) (hb : b < 2 ^ 19) {m : Int} (hm : 0 < m ∧ m < 1073741824) : ∃ k μ', callF T (n + 1) p [.cell 0, .int m] μ = .ok (.int k) μ' ∧ 0 ≤ k ∧ k < m ∧ Hat (b + 1) tl μ' := by
  obtain ⟨_, _, _, _, k0, k1, k2, k3, k4, m0, m1, m2, hf, a0, a1, a2, a3, a4, b0, b1, b2⟩ := P
  obtain ⟨cs, t, r, rfl, h1, h2, h3⟩ := H
  obtain ⟨_, _, e, x, t', r', rfl, rfl, q1, q2, q3, q4, q5⟩ := pull_spec (n := n) hf (cs := cs) (r := r) (μ := tl) hm ⟨h1, by omega⟩ h3 a0 a1 a2 a3 a4 b0 b1 b2
  exact ⟨x, _, e, q1, q2, cs, t', r', rfl, by omega, by omega, q5⟩
/-- one of some things -/
def dOne (p : Nat) : Def := ⟨2, 2, false, [.ret (.op .idx [.v 1, .call p [.v 0, .op .len [.v 1]] [0, 1]])]⟩
theorem one_H (P : Puller T p) (hf : T.fn f = some (dOne p)) {b : Nat} {tl μ : Mu} (H : Hat b tl μ) (hb : b < 2 ^ 19) {xs : List D} {a : D} (ha : a = .lst xs ∨ a = .tup xs) (h0 : 0 < xs.length) (h1 : xs.length < 1073741824) (hc : ∀ d ∈ xs, d.isCell = false) : ∃ d μ', callF T (n + 2) f [.cell 0, a] μ = .ok d μ' ∧ d ∈ xs ∧ Hat (b + 1) tl μ' := by
  obtain ⟨k, μ', e, q1, q2, H'⟩ := pull_H (n := n) P H hb (m := (xs.length : Nat)) (by omega)
  have hk : k.toNat < xs.length := by omega
  have hd : xs[k.toNat] ∈ xs := List.getElem_mem hk
  refine ⟨xs[k.toNat], μ', ?_, hd, H'⟩
  have hl : lenD a μ = .ok (.int (xs.length : Nat)) μ := by rcases ha with rfl | rfl <;> rfl
  have hi : ∀ μ, idxD a (.int k) μ = .ok xs[k.toNat] μ := fun μ => by
    rcases ha with rfl | rfl
    · exact idx_lst q1 (by simp [hk])
    · exact idx_tup q1 (by simp [hk])
  rw [callF_run hf rfl]
  simp only [dOne, startR, List.map_cons, List.map_nil, Nat.sub_self, List.replicate_zero, List.append_nil]
  simp [hl, e, hi]
  rw [finish_ret (hc _ hd), H.len, ← H'.len, List.take_length]
/-- the start -/
def dHat (k : Int) : Def := ⟨1, 2, true, [.retn (.lst [.cmp [1] (.op .toi [.v 1]) (.nm 1) .seq [.slU (.v 0) (.c (.int k))] [], .c (.int 0), .c (.int 0)])]⟩
theorem hat_H {k : Int} (hf : T.fn f = some (dHat k)) {ns : List Int} (hn : ns.length ≤ 1000) : ∃ μ, callF T (n + 1) f [.scr ns] [] = .ok (.cell 0) μ ∧ Hat 0 [] μ := by
  refine ⟨[hatM (cut ns none (some k)) 0 0], ?_, cut ns none (some k), 0, 0, rfl, by omega, by omega, by omega⟩
  have hl : (cut ns none (some k)).length ≤ 1000 := by
    unfold cut
    rw [List.length_take, List.length_drop]
    omega
  have e : compL (still [.lst ((cut ns none (some k)).map .int)] []) (turnC (lev T n) [1] (.op .toi [.v 1]) (.nm 1) [] [some (.scr ns), none]) ((cut ns none (some k)).map .int) [] [] = .ok ((cut ns none (some k)).map .int) [] := by
    have := compL_map (st := still [.lst ((cut ns none (some k)).map .int)] []) (f := turnC (lev T n) [1] (.op .toi [.v 1]) (.nm 1) [] [some (.scr ns), none]) (μ := []) (fun x => x) (still_plain (by simp) _ _) ((cut ns none (some k)).map .int) (fun x hx => by
      obtain ⟨i, _, rfl⟩ := List.mem_map.mp hx
      exact turn0 (by simp)) (fun x hx => by
      obtain ⟨i, _, rfl⟩ := List.mem_map.mp hx
      rfl)
    rw [this]
    simp
  rw [callF_run hf rfl]
  have hsl : ∀ μ, slcD (.scr ns) none (some k) μ = .ok (.lst ((cut ns none (some k)).map .int)) μ := fun _ => rfl
  simp [dHat, startR, ev_slU, hsl, itD, e, mkLst, anyCell, thawR, thaw, finish, leave, hatM, show (cut ns none (some k)).length ≤ 16777216 by omega]
theorem pullN (P : Puller T p) {N : Nat} (hN : 1 ≤ N) {b : Nat} {tl μ : Mu} (H : Hat b tl μ) (hb : b < 2 ^ 19) {m : Int} (hm : 0 < m ∧ m < 1073741824) : ∃ k μ', callF T N p [.cell 0, .int m] μ = .ok (.int k) μ' ∧ 0 ≤ k ∧ k < m ∧ Hat (b + 1) tl μ' := by
  obtain ⟨n, rfl⟩ : ∃ n, N = n + 1 := ⟨N - 1, by omega⟩
  exact pull_H P H hb hm
theorem oneN (P : Puller T p) (hf : T.fn f = some (dOne p)) {N : Nat} (hN : 2 ≤ N) {b : Nat} {tl μ : Mu} (H : Hat b tl μ) (hb : b < 2 ^ 19) {xs : List D} {a : D} (ha : a = .lst xs ∨ a = .tup xs) (h0 : 0 < xs.length) (h1 : xs.length < 1073741824) (hc : ∀ d ∈ xs, d.isCell = false) : ∃ d μ', callF T N f [.cell 0, a] μ = .ok d μ' ∧ d ∈ xs ∧ Hat (b + 1) tl μ' := by
  obtain ⟨n, rfl⟩ : ∃ n, N = n + 2 := ⟨N - 2, by omega⟩
  exact one_H P hf H hb ha h0 h1 hc
/-- a comprehension that draws numbers -/
theorem comp_ints {st : Mu → Bool} {g : D → Mu → R (Option D)} (hs : ∀ μ, st μ = true) {tl : Mu} (P : Int → Prop) (c B : Nat) {xs : List D} (h : ∀ x ∈ xs, ∀ b μ, Hat b tl μ → b < B → ∃ v μ', g x μ = .ok (some (.int v)) μ' ∧ P v ∧ Hat (b + c) tl μ') {b : Nat} {μ : Mu} (H : Hat b tl μ) (hb : b + c * xs.length < B) : ∃ (ys : List Int) (μ' : Mu), compL st g xs [] μ = .ok (ys.map .int) μ' ∧ ys.length = xs.length ∧ (∀ y ∈ ys, P y) ∧ Hat (b + c * xs.length) tl μ' := by
  suffices q : ∀ (zs : List D) (acc : List Int) (k : Nat) (μ : Mu), (∀ x ∈ zs, x ∈ xs) → k + zs.length = xs.length → acc.length = k → (∀ y ∈ acc, P y) → Hat (b + c * k) tl μ → ∃ ys μ', compL st g zs (acc.map .int) μ = .ok (List.map D.int ys) μ' ∧ ys.length = xs.length ∧ (∀ y ∈ ys, P y) ∧ Hat (b + c * xs.length) tl μ' from
    q xs [] 0 μ (fun _ h => h) (by simp) rfl (by simp) (by simpa using H)
  intro zs
  induction zs with
  | nil =>
    intro acc k μ _ hk hl hp H
    have : k = xs.length := by simpa using hk
    subst this
    exact ⟨acc, μ, by simp [compL, hs], hl, hp, H⟩
  | cons z zs ih =>
    intro acc k μ hz hk hl hp H
    have hk1 : k + 1 ≤ xs.length := by
      rw [List.length_cons] at hk
      omega
    have hck : c * k ≤ c * xs.length := Nat.mul_le_mul_left _ (by omega)
    obtain ⟨v, μ1, e, pv, H1⟩ := h z (hz z (by simp)) _ μ H (by omega)
    obtain ⟨ys, μ2, e2, q⟩ := ih (acc ++ [v]) (k + 1) μ1 (fun x hx => hz x (List.mem_cons_of_mem _ hx)) (by rw [List.length_cons] at hk; omega) (by simp [hl]) (fun y hy => by
      rcases List.mem_append.mp hy with q | q
      · exact hp y q
      · rw [List.mem_singleton.mp q]; exact pv) (by rw [show b + c * (k + 1) = b + c * k + c by rw [Nat.mul_succ]; omega]; exact H1)
    refine ⟨ys, μ2, ?_, q⟩
    unfold compL
    rw [hs, if_pos rfl, e]
    rw [List.map_append] at e2
    exact e2
theorem hatN {k : Int} (hf : T.fn f = some (dHat k)) {N : Nat} (hN : 1 ≤ N) {ns : List Int} (hn : ns.length ≤ 1000) : ∃ μ, callF T N f [.scr ns] [] = .ok (.cell 0) μ ∧ Hat 0 [] μ := by
  obtain ⟨n, rfl⟩ : ∃ n, N = n + 1 := ⟨N - 1, by omega⟩
  exact hat_H hf hn
end
end KP
end

section
set_option maxRecDepth 100000
set_option maxHeartbeats 4000000
/-! KPR: texts of tuples and lists of small numbers. -/
namespace KP
open PySem L2 PyProof.Rows
mutual
/-- small numbers, truths, None, in lists and tuples -/
def plD : D → Bool
  | .non => true
  | .bl _ => true
  | .int i => decide (i.natAbs < 1000)
  | .lst xs => plLD xs
  | .tup xs => plLD xs
  | _ => false
def plLD : List D → Bool
  | [] => true
  | x :: xs => plD x && plLD xs
end
/-! how much -/
mutual
def blk : D → Nat
  | .lst xs => blkL xs
  | .tup xs => blkL xs
  | _ => 0
def blkL : List D → Nat
  | [] => 0
  | x :: xs => blk x + 1 + blkL xs
end
theorem small_len : (∀ n : Nat, n < 1000 → (PyData.shown (.int (n : Int))).length ≤ 13) ∧ ∀ n : Nat, n < 1000 → (PyData.shown (.int (-(n : Int)))).length ≤ 13 := by decide +kernel
theorem int_len {i : Int} (h : i.natAbs < 1000) : (PyData.shown (.int i)).length ≤ 13 := by
  rcases Int.natAbs_eq i with e | e
  · rw [e]; exact small_len.1 _ h
  · rw [e]; exact small_len.2 _ h
theorem int_signs {i : Int} : ∀ c ∈ (PyData.shown (.int i)).cps.toList, c < 128 := by
  intro c hc
  rcases Nat.lt_or_ge c 128 with h | h
  · exact h
  · exact absurd hc (shown_int_free' ⟨by omega, by omega⟩ i)
mutual
theorem bulk_eq : ∀ d : D, plD d = true → (toP d).bulk = blk d
  | .non, _ => rfl
  | .bl _, _ => rfl
  | .int _, _ => rfl
  | .lst xs, h => by
    unfold plD at h
    simp only [toP, PyData.bulk, blk]
    exact bulkL_eq xs h
  | .tup xs, h => by
    unfold plD at h
    simp only [toP, PyData.bulk, blk]
    exact bulkL_eq xs h
  | .str _, h => by simp [plD] at h
  | .dct _ _, h => by simp [plD] at h
  | .obj _ _ _, h => by simp [plD] at h
  | .exn _ _ _, h => by simp [plD] at h
  | .fn _, h => by simp [plD] at h
  | .scr _, h => by simp [plD] at h
  | .cell _, h => by simp [plD] at h
theorem bulkL_eq : ∀ xs : List D, plLD xs = true → PyData.bulkAll (toPs xs) = blkL xs
  | [], _ => rfl
  | x :: xs, h => by
    unfold plLD at h
    rw [Bool.and_eq_true] at h
    simp only [toPs, PyData.bulkAll, blkL, bulk_eq x h.1, bulkL_eq xs h.2]
end
def Fine (d : D) : Prop := (toP d).showable = true ∧ (toP d).leavesShort 13 = true ∧ ∀ c ∈ (toP d).shown.cps.toList, c < 128
def FineL (xs : List D) : Prop := PyData.showableAll (toPs xs) = true ∧ PyData.leavesShortAll 13 (toPs xs) = true ∧ ∀ t ∈ PyData.shownAll (toPs xs), ∀ c ∈ t.cps.toList, c < 128
theorem join_lt {ts : List Str} (h : ∀ t ∈ ts, ∀ c ∈ t.cps.toList, c < 128) : ∀ c ∈ (Str.join ", " ts).cps.toList, c < 128 := by
  intro c hc
  rcases (mem_join (", " : Str) c ts).mp hc with ⟨t, ht, q⟩ | ⟨_, q⟩
  · exact h t ht c q
  · have : ((", " : String) : Str).cps.toList = [44, 32] := signs_sep
    rw [this] at q
    simp at q
    rcases q with rfl | rfl <;> decide
mutual
theorem fineD : ∀ d : D, plD d = true → Fine d
  | .non, _ => ⟨rfl, rfl, by decide +kernel⟩
  | .bl true, _ => ⟨rfl, rfl, by decide +kernel⟩
  | .bl false, _ => ⟨rfl, rfl, by decide +kernel⟩
  | .int i, h => by
    unfold plD at h
    have h := of_decide_eq_true h
    refine ⟨?_, ?_, int_signs⟩
    · simp only [toP, PyData.showable]
      refine decide_eq_true ?_
      rcases Nat.eq_zero_or_pos i.natAbs with e | e
      · rw [e]; decide
      · exact Nat.lt_trans ((Nat.log2_lt (by omega)).mpr (show i.natAbs < 2 ^ 10 by omega)) (by omega)
    · simp only [toP, PyData.leavesShort]
      exact decide_eq_true (int_len h)
  | .lst xs, h => by
    unfold plD at h
    obtain ⟨h1, h2, h3⟩ := fineL xs h
    refine ⟨by simpa only [toP, PyData.showable] using h1, by simpa only [toP, PyData.leavesShort] using h2, ?_⟩
    intro c hc
    simp only [toP] at hc
    rw [PyData.shown_list, mem_cps_append, mem_cps_append] at hc
    rcases hc with (hc | hc) | hc
    · rw [show (("[" : String) : Str).cps.toList = [91] from signs_lbrack] at hc
      simp at hc; omega
    · exact join_lt h3 c hc
    · rw [show (("]" : String) : Str).cps.toList = [93] from signs_rbrack] at hc
      simp at hc; omega
  | .tup xs, h => by
    unfold plD at h
    obtain ⟨h1, h2, h3⟩ := fineL xs h
    refine ⟨by simpa only [toP, PyData.showable] using h1, by simpa only [toP, PyData.leavesShort] using h2, ?_⟩
    intro c hc
    simp only [toP] at hc
    rw [PyData.shown_tuple, mem_cps_append, mem_cps_append] at hc
    rcases hc with (hc | hc) | hc
    · rw [show (("(" : String) : Str).cps.toList = [40] from signs_lparen] at hc
      simp at hc; omega
    · exact join_lt h3 c hc
    · revert hc
      split
      · intro hc
        rw [show ((",)" : String) : Str).cps.toList = [44, 41] by decide] at hc
        simp at hc; omega
      · intro hc
        rw [show ((")" : String) : Str).cps.toList = [41] by decide] at hc
        simp at hc; omega
  | .str _, h => by simp [plD] at h
  | .dct _ _, h => by simp [plD] at h
  | .obj _ _ _, h => by simp [plD] at h
  | .exn _ _ _, h => by simp [plD] at h
  | .fn _, h => by simp [plD] at h
  | .scr _, h => by simp [plD] at h
  | .cell _, h => by simp [plD] at h
theorem fineL : ∀ xs : List D, plLD xs = true → FineL xs
  | [], _ => ⟨rfl, rfl, by intro t ht; cases ht⟩
  | x :: xs, h => by
    unfold plLD at h
    rw [Bool.and_eq_true] at h
    obtain ⟨a1, a2, a3⟩ := fineD x h.1
    obtain ⟨b1, b2, b3⟩ := fineL xs h.2
    refine ⟨by simp only [toPs, PyData.showableAll, a1, b1, Bool.and_self], by simp only [toPs, PyData.leavesShortAll, a2, b2, Bool.and_self], ?_⟩
    intro t ht
    simp only [toPs, PyData.shownAll, List.mem_cons] at ht
    rcases ht with rfl | ht
    · exact a3
    · exact b3 t ht
end
theorem strOk_lt {s : Str} (h : ∀ c ∈ s.cps.toList, c < 128) : PyData.strOk s = true := by
  unfold PyData.strOk
  rw [← Array.all_toList, List.all_eq_true]
  intro c hc
  exact decide_eq_true (by have := h c hc; omega)
/-- the text of such a thing: is told, and equal to itself -/
theorem repr_pl {d : D} (h : dat d 60 = true) (hp : plD d = true) (hb : blk d ≤ 1048576) : reprD d = some (toP d).shown ∧ PyData.strOk (toP d).shown = true := by
  obtain ⟨h1, h2, h3⟩ := fineD d hp
  refine ⟨?_, strOk_lt h3⟩
  have := PyData.shown_fits_bulk (B := 13) (by decide) (by decide) h2 (by rw [bulk_eq d hp]; exact Nat.le_trans hb (by decide))
  unfold reprD
  rw [h, h1]
  rw [sizeLine_eq] at this
  rw [if_pos (by simp only [Bool.and_self, Bool.true_and]; exact decide_eq_true (by unfold LN; omega))]
theorem eqD_str {cx : Cxt} {μ : Mu} {s t : Str} (h1 : PyData.strOk s = true) (h2 : PyData.strOk t = true) : eqD cx (.str s) (.str t) μ = .ok (decide (s = t)) μ := by
  rw [w_eqD_dat (by rw [nrm_str]; exact h1) (by rw [nrm_str]; exact h2)]
  simp [eqv]
theorem plLD_ints {xs : List Int} (h : ∀ x ∈ xs, x.natAbs < 1000) : plLD (xs.map .int) = true := by
  induction xs with
  | nil => rfl
  | cons x r ih =>
    simp only [List.map_cons, plLD, plD, ih fun y hy => h y (List.mem_cons_of_mem _ hy), Bool.and_true]
    exact decide_eq_true (h x (by simp))
theorem blkL_ints (xs : List Int) : blkL (xs.map .int) = xs.length := by
  induction xs with
  | nil => rfl
  | cons x r ih => simp only [List.map_cons, blkL, blk, ih, List.length_cons]; omega
end KP
end

section
set_option maxRecDepth 100000
set_option maxHeartbeats 4000000
/-! KPS: slices, ranges, the store with something more. -/
namespace KP
open PySem L2
section
variable {cx : Cxt} {ρ : Rho} {μ : Mu}
theorem cut_take {α : Type} {xs : List α} {k : Int} (h0 : 0 ≤ k) (hk : k ≤ xs.length) : cut xs none (some k) = xs.take k.toNat := by
  obtain ⟨n, rfl⟩ : ∃ n : Nat, k = n := ⟨k.toNat, by omega⟩
  unfold cut
  rw [HT.sIx_none, HT.sIx_nat, Int.toNat_natCast, Nat.min_eq_left (by omega)]
  rfl
theorem cut_drop {α : Type} {xs : List α} {k : Int} (h0 : 0 ≤ k) (hk : k ≤ xs.length) : cut xs (some k) none = xs.drop k.toNat := by
  obtain ⟨n, rfl⟩ : ∃ n : Nat, k = n := ⟨k.toNat, by omega⟩
  unfold cut
  rw [HT.sIx_none, HT.sIx_nat, Int.toNat_natCast, Nat.min_eq_left (by omega), List.take_of_length_le (by rw [List.length_drop]; omega)]
theorem slc_take {xs : List D} {k : Int} (h0 : 0 ≤ k) (hk : k ≤ xs.length) : slcD (.lst xs) none (some k) μ = .ok (.lst (xs.take k.toNat)) μ := by
  rw [← cut_take h0 hk]; rfl
theorem slc_drop {xs : List D} {k : Int} (h0 : 0 ≤ k) (hk : k ≤ xs.length) : slcD (.lst xs) (some k) none μ = .ok (.lst (xs.drop k.toNat)) μ := by
  rw [← cut_drop h0 hk]; rfl
def intK (f : Int → Mu → R D) : D → Mu → R D
  | .int i, μ => f i μ
  | _, _ => .stuck
@[simp] theorem intK_int (f : Int → Mu → R D) (i : Int) : intK f (.int i) μ = f i μ := rfl
@[simp] theorem z_slU (a u : E) : ev cx (.slU a u) ρ μ = (ev cx a ρ μ).bind fun d μ => (ev cx u ρ μ).bind (intK fun i μ => slcD d none (some i) μ) := by
  rw [ev_slU]
  exact bind_eq fun d μ => bind_eq fun i μ => by cases i <;> rfl
@[simp] theorem z_slL (a u : E) : ev cx (.slL a u) ρ μ = (ev cx a ρ μ).bind fun d μ => (ev cx u ρ μ).bind (intK fun i μ => slcD d (some i) none μ) := by
  rw [ev_slL]
  exact bind_eq fun d μ => bind_eq fun i μ => by cases i <;> rfl
/-- 0 .. k - 1 -/
def idl (k : Nat) : List Int := (List.range k).map fun i : Nat => (i : Int)
theorem rngD_idl (k : Nat) : rngD 0 (k : Int) = (idl k).map .int := by
  rw [rngD_nat, idl, List.map_map]; rfl
@[simp] theorem idl_len (k : Nat) : (idl k).length = k := by simp [idl]
theorem idl_mem {k : Nat} {x : Int} (h : x ∈ idl k) : 0 ≤ x ∧ x < k := by
  unfold idl at h
  obtain ⟨i, hi, rfl⟩ := List.mem_map.mp h
  have := List.mem_range.mp hi
  omega
theorem op_lrng {k : Nat} (h : k ≤ 1000) : opD cx .lrng [.int (k : Nat)] μ = .ok (.lst ((idl k).map .int)) μ := by
  rw [← rngD_idl]
  exact if_pos ⟨by rw [LN_eq]; omega, by rw [LN_eq]; omega⟩
theorem op_trng {k : Nat} (h : k ≤ 1000) : opD cx .trng [.int (k : Nat)] μ = .ok (.tup ((idl k).map .int)) μ := by
  rw [← rngD_idl]
  exact if_pos ⟨by rw [LN_eq]; omega, by rw [LN_eq]; omega⟩
/-- the store with something more -/
theorem Hat.one {b : Nat} {tl μ : Mu} (H : Hat b tl μ) : ∃ h, μ = h :: tl := by
  obtain ⟨cs, t, r, e, _⟩ := H
  exact ⟨_, e⟩
theorem Hat.app {b : Nat} {tl μ : Mu} (H : Hat b tl μ) (ν : Mu) : Hat b (tl ++ ν) (μ ++ ν) := by
  obtain ⟨cs, t, r, rfl, h⟩ := H
  exact ⟨cs, t, r, rfl, h⟩
theorem Hat.to {b : Nat} {tl tl' : Mu} {h : M} (H : Hat b tl (h :: tl)) : Hat b tl' (h :: tl') := by
  obtain ⟨cs, t, r, e, q⟩ := H
  cases e
  exact ⟨cs, t, r, rfl, q⟩
/-- the k-th row is walked -/
theorem step_nx {l : List S} {k : Nat} {ρ' : Rho} {μ' : Mu} (hk : k < l.length) (h : ex cx (l.getD k .pass) ρ μ = .ok (.nx ρ') μ') : exs cx (l.drop k) ρ μ = exs cx (l.drop (k + 1)) ρ' μ' := by
  have e : l.drop k = l.getD k .pass :: l.drop (k + 1) := by
    rw [List.getD_eq_getElem?_getD, List.getElem?_eq_getElem hk]
    exact List.drop_eq_getElem_cons hk
  rw [e, w_exs_cons, h]
  rfl
theorem step_ret {l : List S} {k : Nat} {d : D} {μ' : Mu} (hk : k < l.length) (h : ex cx (l.getD k .pass) ρ μ = .ok (.ret d) μ') : exs cx (l.drop k) ρ μ = .ok (.ret d) μ' := by
  have e : l.drop k = l.getD k .pass :: l.drop (k + 1) := by
    rw [List.getD_eq_getElem?_getD, List.getElem?_eq_getElem hk]
    exact List.drop_eq_getElem_cons hk
  rw [e, w_exs_cons, h]
  rfl
end
end KP
end

section
set_option maxRecDepth 100000
set_option maxHeartbeats 4000000
/-! KPJ: loops that stop, comprehensions that raise. -/
namespace KP
open PySem L2
/-- a loop that hands something back, or raises, at its k-th turn -/
theorem forL_retAt {st : Mu → Bool} {g : G} {b : Rho → Mu → R F} (I : Nat → Rho → Mu → Prop) (hs : ∀ j ρ μ, I j ρ μ → st μ = true) {k : Nat} {e : R F} :
    ∀ (xs : List D) (j : Nat) (ρ : Rho) (μ : Mu), I j ρ μ → j ≤ k → k - j < xs.length →
    (∀ i ρ μ x, I (j + i) ρ μ → j + i < k → xs[i]? = some x → ∃ ρ1 ρ2 μ2, tgt g x ρ μ = some ρ1 ∧ b ρ1 μ = .ok (.nx ρ2) μ2 ∧ I (j + i + 1) ρ2 μ2) →
    (∀ ρ μ x, I k ρ μ → xs[k - j]? = some x → ∃ ρ1, tgt g x ρ μ = some ρ1 ∧ b ρ1 μ = e) → (∀ f μ, e = .ok f μ → ∃ d, f = .ret d) →
    forL st g b xs ρ μ = e
  | [], j, ρ, μ, h, _, hl, _, _, _ => by simp at hl
  | x :: xs, j, ρ, μ, h, hj, hl, hT, hE, he => by
    by_cases ej : j = k
    · subst ej
      obtain ⟨ρ1, e1, e2⟩ := hE ρ μ x h (by simp)
      unfold forL
      rw [hs j ρ μ h, if_pos rfl, e1]
      dsimp only
      rw [e2]
      cases e with
      | ok f μ' =>
        obtain ⟨d, rfl⟩ := he f μ' rfl
        rfl
      | exc c ns vs μ' => rfl
      | stuck => rfl
    · obtain ⟨ρ1, ρ2, μ2, e1, e2, h2⟩ := hT 0 ρ μ x h (by omega) rfl
      have r := forL_retAt I hs xs (j + 1) ρ2 μ2 h2 (by omega) (by rw [List.length_cons] at hl; omega) (fun i ρ μ y hI hi hy => by
        have := hT (i + 1) ρ μ y (by rw [show j + (i + 1) = j + 1 + i by omega]; exact hI) (by omega) hy
        rwa [show j + (i + 1) + 1 = j + 1 + i + 1 by omega] at this) (fun ρ μ y hI hy => hE ρ μ y hI (by
        rw [show k - j = (k - (j + 1)) + 1 by omega]
        exact hy)) he
      unfold forL
      rw [hs j ρ μ h, if_pos rfl, e1]
      dsimp only
      rw [e2]
      exact r
/-- a comprehension whose element may raise: it does not -/
theorem compR_go {st : Mu → Bool} {f : D → Mu → R (Option D)} (V : Nat → D) (M : Nat → Mu) {k : Nat} (hs : ∀ j, j ≤ k → st (M j) = true) (hf : ∀ j x, j < k → f x (M j) = .ok (some (V j)) (M (j + 1))) (hv : ∀ j, j < k → (V j).isCell = false) :
    ∀ (xs : List D) (j : Nat) (acc : List D), j + xs.length = k → compR st f xs acc (M j) = .ok (acc ++ (List.range xs.length).map fun i => V (j + i)) (M k)
  | [], j, acc, h => by
    have e : j = k := by simpa using h
    subst e
    unfold compR
    rw [hs j (Nat.le_refl _), if_pos rfl]
    simp
  | x :: xs, j, acc, h => by
    rw [List.length_cons] at h
    unfold compR
    rw [hs j (by omega), if_pos rfl, hf j x (by omega)]
    show (if (V j).isCell = true then _ else compR st f xs (acc ++ [V j]) (M (j + 1))) = _
    rw [hv j (by omega)]
    rw [if_neg (by simp), compR_go V M hs hf hv xs (j + 1) _ (by omega), List.length_cons, List.range_succ_eq_map, List.map_cons, List.map_map, List.append_assoc]
    congr 2
    simp only [Nat.add_zero, List.singleton_append, List.cons.injEq, true_and]
    refine List.map_congr_left fun i _ => ?_
    show V (j + 1 + i) = V (j + (i + 1))
    congr 1
    omega
/-- it does, at its k-th turn -/
theorem compR_exc {st : Mu → Bool} {f : D → Mu → R (Option D)} (V : Nat → D) (M : Nat → Mu) {k c : Nat} {ns : List Nat} {vs : List D} {μe : Mu} (hs : ∀ j, j ≤ k → st (M j) = true) (hf : ∀ j x, j < k → f x (M j) = .ok (some (V j)) (M (j + 1))) (hv : ∀ j, j < k → (V j).isCell = false) (he : ∀ x, f x (M k) = .exc c ns vs μe) :
    ∀ (xs : List D) (j : Nat) (acc : List D), j ≤ k → k - j < xs.length → compR st f xs acc (M j) = .exc c ns vs μe
  | [], j, acc, _, h => by simp at h
  | x :: xs, j, acc, hj, h => by
    rw [List.length_cons] at h
    unfold compR
    rw [hs j (by omega), if_pos rfl]
    by_cases e : j = k
    · subst e
      rw [he]
      rfl
    · rw [hf j x (by omega)]
      show (if (V j).isCell = true then _ else compR st f xs (acc ++ [V j]) (M (j + 1))) = _
      rw [hv j (by omega), if_neg (by simp)]
      exact compR_exc V M hs hf hv he xs (j + 1) _ (by omega) (by omega)
/-- a turn with no test, errors let out -/
theorem turnR0 {cx : Cxt} {μ : Mu} {ow : List Nat} {elt : E} {i : Nat} {ρ : Rho} {x : D} {r : R D} (h : ev cx elt ((wipeR ρ ow).set i (some x)) μ = r) : turnR cx ow elt (.nm i) [] ρ x μ = r.bind fun y μ => .ok (some y) μ := by
  unfold turnR
  rw [tgt_nm]
  dsimp only
  rw [evc_nil]
  show (ev cx elt _ μ).bind _ = _
  rw [h]
theorem step_exc {cx : Cxt} {l : List S} {k c : Nat} {ρ : Rho} {ns : List Nat} {vs : List D} {μ μ' : Mu} (hk : k < l.length) (h : ex cx (l.getD k .pass) ρ μ = .exc c ns vs μ') : exs cx (l.drop k) ρ μ = .exc c ns vs μ' := by
  have e : l.drop k = l.getD k .pass :: l.drop (k + 1) := by
    rw [List.drop_eq_getElem_cons hk, List.getD_eq_getElem?_getD, List.getElem?_eq_getElem hk]
    rfl
  rw [e, w_exs_cons, h]
  rfl
theorem rngD_get {lo hi : Int} {i : Nat} {x : D} (h : (rngD lo hi)[i]? = some x) : x = .int (lo + (i : Nat)) ∧ (i : Int) < hi - lo := by
  unfold rngD at h
  rw [List.getElem?_map] at h
  rcases Nat.lt_or_ge i (hi - lo).toNat with q | q
  · rw [List.getElem?_range q] at h
    cases h
    exact ⟨rfl, by omega⟩
  · rw [List.getElem?_eq_none (by rw [List.length_range]; exact q)] at h
    cases h
theorem rngD_len2 (lo hi : Int) : (rngD lo hi).length = (hi - lo).toNat := by
  unfold rngD
  simp
end KP
end

section
/-! KPA: a world told by its one answer that the head's run asks for (the text "special-get-raises"): the run is reckoned twice, at either answer. -/
namespace KP
open PySem PySem.Spec PyProof.Rows
/-- the world whose answer at that text is b -/
def ansW (b : Bool) (w : World) : World := { w with params := { w.params with followText := fun x => match decide (x = "special-get-raises") with
  | true => b
  | false => w.params.followText x } }
theorem ansW_eq (w : World) : ansW (w.params.followText "special-get-raises") w = w := by
  obtain ⟨dr, P⟩ := w
  have e : (fun x => match decide (x = "special-get-raises") with
    | true => P.followText "special-get-raises"
    | false => P.followText x) = P.followText := by
    funext x
    by_cases h : x = "special-get-raises"
    · rw [h]
      simp
    · simp [h]
  show (⟨dr, { P with followText := fun x => match decide (x = "special-get-raises") with
    | true => P.followText "special-get-raises"
    | false => P.followText x }⟩ : World) = ⟨dr, P⟩
  rw [e]
theorem run_ans {Q : World → Prop} (h1 : ∀ w, Q (ansW true w)) (h2 : ∀ w, Q (ansW false w)) (w : World) : Q w := by
  have e := ansW_eq w
  cases h : w.params.followText "special-get-raises" with
  | true =>
    rw [h] at e
    rw [← e]
    exact h1 w
  | false =>
    rw [h] at e
    rw [← e]
    exact h2 w
end KP
end

section
set_option maxRecDepth 100000
set_option maxHeartbeats 4000000
/-! KPK: what the laws share: comprehensions, rows of numbers, tests. -/
namespace KP
open PySem PySem.Spec PyProof.Rows L2
@[simp] theorem callP_21 {cx : Cxt} {f : Nat} {a b : D} {μ : Mu} : callP cx f [1, 0] [a, b] μ = cx.cf f [b, a] μ := rfl
@[simp] theorem callP_210 {cx : Cxt} {f : Nat} {a b c : D} {μ : Mu} : callP cx f [2, 1, 0] [a, b, c] μ = cx.cf f [c, b, a] μ := rfl
/-- a comprehension over things told by others -/
theorem comp_of {α : Type} {st : Mu → Bool} {g : D → Mu → R (Option D)} {μ : Mu} (f h : α → D) (hs : st μ = true) (xs : List α) (e : ∀ x ∈ xs, g (f x) μ = .ok (some (h x)) μ) (c : ∀ x ∈ xs, (h x).isCell = false) : compL st g (xs.map f) [] μ = .ok (xs.map h) μ := by
  suffices q : ∀ (ys : List α) (acc : List D), (∀ y ∈ ys, y ∈ xs) → compL st g (ys.map f) acc μ = .ok (acc ++ ys.map h) μ from by
    have := q xs [] (fun _ h => h)
    simpa using this
  intro ys
  induction ys with
  | nil => intro acc _; simp [compL, hs]
  | cons y r ih =>
    intro acc hy
    have hm := hy y (by simp)
    rw [List.map_cons]
    unfold compL
    rw [hs, if_pos rfl, e y hm]
    show (if (h y).isCell = true then _ else compL st g (r.map f) (acc ++ [h y]) μ) = _
    rw [c y hm, if_neg (by simp), ih _ (fun z hz => hy z (List.mem_cons_of_mem _ hz))]
    simp
theorem ix_getD {a : D} {xs : List Int} {k : Nat} {μ : Mu} (h : a = .tup (xs.map .int) ∨ a = .lst (xs.map .int)) (hk : k < xs.length) : idxD a (.int (k : Nat)) μ = .ok (.int (xs.getD k 0)) μ := by
  rcases h with rfl | rfl
  · exact idx_tup (by omega) (by simp [hk, List.getD_eq_getElem?_getD])
  · exact idx_lst (by omega) (by simp [hk, List.getD_eq_getElem?_getD])
/-- a comprehension that leaves some out -/
theorem comp_sel {α : Type} {st : Mu → Bool} {g : D → Mu → R (Option D)} {μ : Mu} (f h : α → D) (q : α → Bool) (hs : st μ = true) (xs : List α) (e : ∀ x ∈ xs, g (f x) μ = .ok (if q x = true then some (h x) else none) μ) (c : ∀ x ∈ xs, (h x).isCell = false) : compL st g (xs.map f) [] μ = .ok ((xs.filter q).map h) μ := by
  suffices w : ∀ (ys : List α) (acc : List D), (∀ y ∈ ys, y ∈ xs) → compL st g (ys.map f) acc μ = .ok (acc ++ (ys.filter q).map h) μ from by
    have := w xs [] (fun _ h => h)
    simpa using this
  intro ys
  induction ys with
  | nil => intro acc _; simp [compL, hs]
  | cons y r ih =>
    intro acc hy
    have hm := hy y (by simp)
    rw [List.map_cons]
    unfold compL
    rw [hs, if_pos rfl, e y hm]
    cases hq : q y with
    | true =>
      show (if (h y).isCell = true then _ else compL st g (r.map f) (acc ++ [h y]) μ) = _
      rw [c y hm, if_neg (by simp), ih _ (fun z hz => hy z (List.mem_cons_of_mem _ hz))]
      simp [hq]
    | false =>
      show compL st g (r.map f) acc μ = _
      rw [ih _ (fun z hz => hy z (List.mem_cons_of_mem _ hz))]
      simp [hq]
/-- a turn with a test, by itself -/
theorem turnS {cx : Cxt} {ow : List Nat} {elt c : E} {i : Nat} {ρ : Rho} {x y : D} {k : Bool} {μ : Mu} (hc : evb cx c ((wipeR ρ ow).set i (some x)) μ = .ok k μ) (h : k = true → ev cx elt ((wipeR ρ ow).set i (some x)) μ = .ok y μ) : turnC cx ow elt (.nm i) [c] ρ x μ = .ok (if k = true then some y else none) μ := by
  rw [turn1 hc h]
  cases k <;> rfl
theorem bls_map {α : Type} (f : α → Bool) (xs : List α) : blsOf (xs.map fun x => D.bl (f x)) = some (xs.map f) := by
  induction xs with
  | nil => rfl
  | cons x r ih => simp [blsOf, ih]
theorem op_allB {cx : Cxt} {α : Type} (f : α → Bool) (xs : List α) (μ : Mu) : opD cx .all [.lst (xs.map fun x => D.bl (f x))] μ = .ok (.bl (xs.all f)) μ := by
  show (match blsOf (xs.map fun x => D.bl (f x)) with | some bs => okB (bs.all id) μ | none => .stuck) = _
  rw [bls_map]
  show R.ok (D.bl ((xs.map f).all id)) μ = _
  rw [List.all_map]
  rfl
theorem op_anyB {cx : Cxt} {α : Type} (f : α → Bool) (xs : List α) (μ : Mu) : opD cx .any [.lst (xs.map fun x => D.bl (f x))] μ = .ok (.bl (xs.any f)) μ := by
  show (match blsOf (xs.map fun x => D.bl (f x)) with | some bs => okB (bs.any id) μ | none => .stuck) = _
  rw [bls_map]
  show R.ok (D.bl ((xs.map f).any id)) μ = _
  rw [List.any_map]
  rfl
theorem eq_nilD {cx : Cxt} {xs : List D} (h : datL xs 59 = true) (μ : Mu) : eqD cx (.lst xs) (.lst []) μ = .ok xs.isEmpty μ := by
  rw [w_eqD_dat (by rw [nrm_lst]; exact h) (by rw [nrm_lst]; rfl), nrm_lst, nrm_lst]
  cases xs <;> rfl
theorem eq_nilI {cx : Cxt} (xs : List Int) (μ : Mu) : eqD cx (.lst (xs.map .int)) (.lst []) μ = .ok xs.isEmpty μ := by
  rw [eq_nilD (datL_ints _ _)]
  cases xs <;> rfl
theorem op_min {cx : Cxt} (a b : Int) (μ : Mu) : opD cx .min2 [.int a, .int b] μ = .ok (.int (min a b)) μ := by
  show R.ok (D.int (if b < a then b else a)) μ = _
  rw [show (if b < a then b else a) = min a b by split <;> omega]
theorem op_max {cx : Cxt} (a b : Int) (μ : Mu) : opD cx .max2 [.int a, .int b] μ = .ok (.int (max a b)) μ := by
  show R.ok (D.int (if b > a then b else a)) μ = _
  rw [show (if b > a then b else a) = max a b by split <;> omega]
theorem ints_of (xs : List Int) : intsOf (xs.map .int) = some xs := by
  induction xs with
  | nil => rfl
  | cons x r ih => simp [intsOf, ih]
theorem op_countT {cx : Cxt} (xs : List Int) (x : Int) (μ : Mu) : opD cx .countT [.tup (xs.map .int), .int x] μ = .ok (.int ((xs.count x : Nat) : Int)) μ := by
  show (match intsOf (xs.map .int) with | some ns => R.ok (D.int ((ns.count x : Nat) : Int)) μ | none => .stuck) = _
  rw [ints_of]
theorem op_lenset {cx : Cxt} {xs : List Int} (h : xs.length ≤ 1000) (μ : Mu) : opD cx .lenset [.tup (xs.map .int)] μ = .ok (.int (((setI xs).length : Nat) : Int)) μ := by
  show (match intsOf (xs.map .int) with | some ns => if ns.length ≤ 1000 then R.ok (D.int (((setI ns).length : Nat) : Int)) μ else .stuck | none => .stuck) = _
  rw [ints_of]
  exact if_pos h
theorem op_srt {cx : Cxt} (xs : List Int) (μ : Mu) : opD cx .srt [.tup (xs.map .int)] μ = .ok (.lst ((sortI xs).map .int)) μ := by
  show (match intsOf (xs.map .int) with | some ns => R.ok (D.lst ((sortI ns).map .int)) μ | none => .stuck) = _
  rw [ints_of]
/-- all rows of so many out of so many, ascending -/
def rowsI (t : Nat) : Nat → List (List Int)
  | 0 => [[]]
  | p + 1 => (rowsI t p).flatMap fun r => (idl t).map fun x => r ++ [x]
/-- one of these rows -/
def Rw (t p : Nat) (r : List Int) : Prop := r.length = p ∧ ∀ x ∈ r, 0 ≤ x ∧ x < (t : Int)
theorem mem_idl {k : Nat} {x : Int} : x ∈ idl k ↔ 0 ≤ x ∧ x < k := by
  refine ⟨idl_mem, fun h => ?_⟩
  unfold idl
  exact List.mem_map.mpr ⟨x.toNat, List.mem_range.mpr (by omega), by omega⟩
theorem mem_rows {t : Nat} : ∀ {p : Nat} {r : List Int}, r ∈ rowsI t p ↔ Rw t p r
  | 0, r => by
    unfold rowsI Rw
    rw [List.mem_singleton]
    constructor
    · rintro rfl; exact ⟨rfl, by simp⟩
    · intro h; exact List.length_eq_zero_iff.mp h.1
  | p + 1, r => by
    unfold rowsI
    rw [List.mem_flatMap]
    constructor
    · rintro ⟨s, hs, hr⟩
      obtain ⟨x, hx, rfl⟩ := List.mem_map.mp hr
      obtain ⟨q1, q2⟩ := mem_rows.mp hs
      refine ⟨by simp [q1], fun y hy => ?_⟩
      rcases List.mem_append.mp hy with h | h
      · exact q2 y h
      · rw [List.mem_singleton.mp h]; exact idl_mem hx
    · rintro ⟨h1, h2⟩
      have hn : r ≠ [] := by intro e; rw [e] at h1; simp at h1
      have e := List.dropLast_concat_getLast hn
      refine ⟨r.dropLast, mem_rows.mpr ⟨by simp [h1], fun x hx => h2 x ((List.dropLast_sublist r).subset hx)⟩, ?_⟩
      exact List.mem_map.mpr ⟨r.getLast hn, mem_idl.mpr (h2 _ (List.getLast_mem hn)), e⟩
theorem z_slB {cx : Cxt} {ρ : Rho} {μ : Mu} (a l u : E) : ev cx (.slB a l u) ρ μ = (ev cx a ρ μ).bind fun d μ => (ev cx l ρ μ).bind (intK fun i μ => (ev cx u ρ μ).bind (intK fun j μ => slcD d (some i) (some j) μ)) := by
  rw [ev_slB]
  exact bind_eq fun d μ => bind_eq fun i μ => by
    cases i <;> first | rfl | skip
    exact bind_eq fun j μ => by cases j <;> rfl
theorem op_revL {cx : Cxt} (xs : List D) (μ : Mu) : opD cx .rev [.lst xs] μ = if xs.length ≤ LN then .ok (.lst xs.reverse) μ else .stuck := rfl
def rowD (r : List Int) : D := .tup (r.map .int)
@[simp] theorem rowD_cell (r : List Int) : (rowD r).isCell = false := rfl
theorem datL_rows (ys : List (List Int)) (n : Nat) : datL (ys.map rowD) (n + 1) = true := by
  induction ys with
  | nil => rfl
  | cons y s ih =>
    simp only [List.map_cons, datL, ih, rowD, dat, datL_ints, Bool.and_self]
theorem rows_len (t p : Nat) : (rowsI t p).length = t ^ p := by
  induction p with
  | zero => rfl
  | succ p ih =>
    unfold rowsI
    have w : ∀ l : List (List Int), (l.flatMap fun r => (idl t).map fun x => r ++ [x]).length = l.length * t := fun l => by
      induction l with
      | nil => simp
      | cons a s ih => rw [List.flatMap_cons, List.length_append, ih, List.length_map, idl_len, List.length_cons, Nat.succ_mul, Nat.add_comm]
    rw [w, ih, Nat.pow_succ]
/-- one comprehension inside another: the lists in a row -/
theorem compO_flat {α : Type} {st : Mu → Bool} {F : D → List D → Mu → R (List D)} {μ : Mu} (f : α → D) (g : α → List D) (hs : st μ = true) (xs : List α) (hb : (xs.flatMap g).length ≤ LN)
    (h : ∀ x ∈ xs, ∀ acc : List D, acc.length + (g x).length ≤ LN → F (f x) acc μ = .ok (acc ++ g x) μ) : compO st F (xs.map f) [] μ = .ok (xs.flatMap g) μ := by
  suffices q : ∀ (ys : List α) (acc : List D), (∀ y ∈ ys, y ∈ xs) → acc.length + (ys.flatMap g).length ≤ LN → compO st F (ys.map f) acc μ = .ok (acc ++ ys.flatMap g) μ from by
    have := q xs [] (fun _ h => h) (by rw [List.length_nil]; omega)
    simpa using this
  intro ys
  induction ys with
  | nil => intro acc _ _; simp [compO, hs]
  | cons y r ih =>
    intro acc hy hl
    have hm := hy y (by simp)
    rw [List.flatMap_cons, List.length_append] at hl
    rw [List.map_cons]
    unfold compO
    rw [hs, if_pos rfl, h y hm acc (by omega)]
    show compO st F (r.map f) (acc ++ g y) μ = _
    rw [ih _ (fun z hz => hy z (List.mem_cons_of_mem _ hz)) (by rw [List.length_append]; omega), List.flatMap_cons, List.append_assoc]
/-- a comprehension onto a list that is there -/
theorem comp_onto {α : Type} {st : Mu → Bool} {g : D → Mu → R (Option D)} {μ : Mu} (f h : α → D) (hs : st μ = true) (xs : List α) (e : ∀ x ∈ xs, g (f x) μ = .ok (some (h x)) μ) (c : ∀ x ∈ xs, (h x).isCell = false) : ∀ acc : List D, compL st g (xs.map f) acc μ = .ok (acc ++ xs.map h) μ := by
  suffices q : ∀ (ys : List α) (acc : List D), (∀ y ∈ ys, y ∈ xs) → compL st g (ys.map f) acc μ = .ok (acc ++ ys.map h) μ from fun acc => q xs acc (fun _ h => h)
  intro ys
  induction ys with
  | nil => intro acc _; simp [compL, hs]
  | cons y r ih =>
    intro acc hy
    have hm := hy y (by simp)
    rw [List.map_cons]
    unfold compL
    rw [hs, if_pos rfl, e y hm]
    show (if (h y).isCell = true then _ else compL st g (r.map f) (acc ++ [h y]) μ) = _
    rw [c y hm, if_neg (by simp), ih _ (fun z hz => hy z (List.mem_cons_of_mem _ hz))]
    simp
/-- each with the one behind it -/
def prs (xs : List Int) : List (Int × Int) := xs.zip (xs.drop 1)
theorem zipD_ints : ∀ xs ys : List Int, zipD (xs.map .int) (ys.map .int) = (xs.zip ys).map fun p => .tup [.int p.1, .int p.2]
  | [], _ => rfl
  | _ :: _, [] => rfl
  | x :: xs, y :: ys => by
    simp only [List.map_cons, zipD, zipD_ints xs ys, List.zip_cons_cons]
theorem itD_zipT (xs ys : List D) (μ : Mu) : itD .zip [.tup xs, .tup ys] μ = some (zipD xs ys) := rfl
theorem eqv_str (a b : Str) : eqv (.str a) (.str b) = decide (a = b) := by
  simp [eqv]
end KP
end

section
set_option maxRecDepth 100000
set_option maxHeartbeats 4000000
namespace K05
open PySem PySem.Spec PyProof.Rows L2 KP
abbrev T : Tab := pg.T
theorem P21 : Puller T 21 := ⟨true, false, false, true, 64013, 7127, 38039, 4021, 38039, 2147483587, 2147483629, 2147483549, rfl, by decide, by decide, by decide, by decide, by decide, by decide, by decide, by decide⟩
theorem F20 : T.fn 20 = some (dHat 60) := rfl
theorem F22 : T.fn 22 = some (dOne 21) := rfl
theorem is_int {N : Nat} (hN : 1 ≤ N) (i : Int) (μ : Mu) : callF T N 0 [.int i] μ = .ok (.bl true) μ := by
  obtain ⟨n, rfl⟩ : ∃ n, N = n + 1 := ⟨N - 1, by omega⟩
  rw [callF_run (show T.fn 0 = some d_is_integer from rfl) rfl]
  simp [d_is_integer, startR, tyAny, tyIs, tyB, iteB_t]
theorem within {N : Nat} (hN : 2 ≤ N) {x a b : Int} (h1 : a ≤ x) (h2 : x ≤ b) (μ : Mu) : callF T N 1 [.int x, .int a, .int b] μ = .ok (.bl true) μ := by
  obtain ⟨n, rfl⟩ : ∃ n, N = n + 2 := ⟨N - 2, by omega⟩
  rw [callF_run (show T.fn 1 = some d_is_within from rfl) rfl]
  simp [d_is_within, startR, is_int (show 1 ≤ n + 1 by omega), iteB_f, iteB_t, h1, h2]
theorem bls_true {α : Type} (xs : List α) : blsOf (xs.map fun _ => D.bl true) = some (xs.map fun _ => true) := by
  induction xs with
  | nil => rfl
  | cons x r ih => simp [blsOf, ih]
theorem are_nums {N : Nat} (hN : 2 ≤ N) {a : D} {xs : List Int} {μ : Mu} (h : isA a (xs.map .int) μ) (hl : xs.length ≤ 300) : callF T N 2 [a] μ = .ok (.bl true) μ := by
  obtain ⟨n, rfl⟩ : ∃ n, N = n + 2 := ⟨N - 2, by omega⟩
  have e : compL (still [a] μ) (turnC (lev T (n + 1)) [1] (.call 0 [.v 1] [0]) (.nm 1) [] [some a, none]) (xs.map .int) [] μ = .ok (xs.map fun _ => D.bl true) μ := by
    rw [compL_map (fun _ => .bl true) (still_same _ _) _ (fun x hx => ?_) (fun x hx => rfl), List.map_map]
    · rfl
    · obtain ⟨i, _, rfl⟩ := List.mem_map.mp hx
      exact turn0 (by simp [is_int (show 1 ≤ n + 1 by omega)])
  rw [callF_run (show T.fn 2 = some d_are_numbers from rfl) rfl]
  simp [d_are_numbers, startR, h.ty, h.it, e, show xs.length ≤ 16777216 by omega, bls_true, iteB_t]
theorem need_number {N : Nat} (hN : 3 ≤ N) {x a b : Int} (h1 : a ≤ x) (h2 : x ≤ b) (p : D) (μ : Mu) : callF T N 3 [.int x, p, .int a, .int b] μ = .ok .non μ := by
  obtain ⟨n, rfl⟩ : ∃ n, N = n + 3 := ⟨N - 3, by omega⟩
  rw [callF_run (show T.fn 3 = some d_need_number from rfl) rfl]
  simp [d_need_number, startR, within (show 2 ≤ n + 2 by omega) h1 h2, iteB_f]
theorem need_thing {N : Nat} (hN : 3 ≤ N) {x t : Int} (h1 : 0 ≤ x) (h2 : x < t) (μ : Mu) : callF T N 4 [.int x, .int t] μ = .ok .non μ := by
  obtain ⟨n, rfl⟩ : ∃ n, N = n + 3 := ⟨N - 3, by omega⟩
  rw [callF_run (show T.fn 4 = some d_need_thing from rfl) rfl]
  simp [d_need_thing, startR, within (show 2 ≤ n + 2 by omega) h1 (show x ≤ t - 1 by omega), iteB_f]
theorem need_row {N : Nat} (hN : 4 ≤ N) {a : D} {xs : List Int} {t : Int} {μ : Mu} (h : isA a (xs.map .int) μ) (h1 : 1 ≤ xs.length) (h5 : xs.length ≤ 5) (hx : ∀ x ∈ xs, 0 ≤ x ∧ x < t) : callF T N 6 [a, .int t] μ = .ok .non μ := by
  obtain ⟨n, rfl⟩ : ∃ n, N = n + 4 := ⟨N - 4, by omega⟩
  rw [callF_run (show T.fn 6 = some d_need_row from rfl) rfl]
  obtain ⟨ρ', μ', e, _, rfl⟩ := forL_inv (st := still [a] μ) (g := .nm 2) (b := bodyL (lev T (n + 3)) [.ex (.call 4 [.v 2, .v 1] [0, 1])])
    (fun k ρ μ' => (∃ z, ρ = [some a, some (.int t), z]) ∧ μ' = μ) (fun k ρ μ' q => by rw [q.2]; exact still_same _ _) (xs.map .int) 0 [some a, some (.int t), none] μ ⟨⟨none, rfl⟩, rfl⟩ (by
      rintro i ρ μ' x ⟨⟨z, rfl⟩, rfl⟩ hi
      obtain ⟨w, hw, rfl⟩ := List.mem_map.mp (List.mem_of_getElem? hi)
      refine ⟨_, [some a, some (.int t), some (.int w)], μ', tgt_nm _ _ _ _, ?_, ⟨_, rfl⟩, rfl⟩
      simp [need_thing (show 3 ≤ n + 3 by omega) (hx w hw).1 (hx w hw).2])
  have l1 : ((1 : Int) ≤ xs.length) = True := by simp; omega
  have l2 : ((xs.length : Int) ≤ 5) = True := by simp; omega
  simp [d_need_row, startR, are_nums (show 2 ≤ n + 3 by omega) h (by omega), h.len, l1, l2, iteB_f, iteB_t, h.it, e]
def leadD (t : Int) (xs : List Int) : D := .obj 8 [4, 5, 6] [.int (xs.length : Nat), .int t, .tup (xs.map .int)]
theorem hF (n f : Nat) (h : f = 4 ∨ f = 5 ∨ f = 6) : hasF (lev T n) false 8 f = true := by
  rw [hasF_lev]
  rcases h with rfl | rfl | rfl <;> rfl
theorem lead_init {N : Nat} (hN : 5 ≤ N) {a : D} {xs : List Int} {t : Int} {μ : Mu} (h : isA a (xs.map .int) μ) (h1 : 1 ≤ xs.length) (h5 : xs.length ≤ 5) (hx : ∀ x ∈ xs, 0 ≤ x ∧ x < t) (t1 : 1 ≤ t) (t5 : t ≤ 5) :
    callF T N 32 [.cell μ.length, .int t, a] (μ ++ [.ins 8 [] []]) = .ok .non (μ ++ [.ins 8 [4, 5, 6] [.int (xs.length : Nat), .int t, .tup (xs.map .int)]]) := by
  obtain ⟨n, rfl⟩ : ∃ n, N = n + 5 := ⟨N - 5, by omega⟩
  rw [callF_run (show T.fn 32 = some d_Lead_init from rfl) rfl]
  have h0 := h.ext [.ins 8 [] []]
  have h2 := h.ext [.ins 8 [4] [.int (xs.length : Nat)]]
  have h3 := h.ext [.ins 8 [4, 5] [.int (xs.length : Nat), .int t]]
  have sf : ∀ (ns : List Nat) (vs : List D) (f : Nat) (d : D) (ρ : Rho), (f = 4 ∨ f = 5 ∨ f = 6) → d.isCell = false → ns.length < 900 → stfR (lev T (n + 4)) f d (.cell μ.length) ρ (μ ++ [.ins 8 ns vs]) = .ok (.nx ρ) (μ ++ [.ins 8 (put ns vs f d).1 (put ns vs f d).2]) := fun ns vs f d ρ hf hd hl => by
    rw [stf_cell (get_last _ _) hd hl (hF _ _ hf), set_last]
  have s4 := fun ρ => sf [] [] 4 (.int (xs.length : Nat)) ρ (by simp) rfl (by simp)
  have s5 := fun ρ => sf [4] [.int (xs.length : Nat)] 5 (.int t) ρ (by simp) rfl (by simp)
  have s6 := fun ρ => sf [4, 5] [.int (xs.length : Nat), .int t] 6 (.tup (xs.map .int)) ρ (by simp) rfl (by simp)
  simp [put] at s4 s5 s6
  have hl := h0.len
  rw [List.length_map] at hl
  simp [d_Lead_init, startR, need_number (show 3 ≤ n + 4 by omega) t1 t5, need_row (show 4 ≤ n + 4 by omega) h0 h1 h5 hx, hl, s4, s5, s6, h3.seq]
  rw [show μ.length + 1 = (μ ++ [M.ins 8 [4, 5, 6] [.int (xs.length : Nat), .int t, .tup (xs.map .int)]]).length by simp, List.take_length]
theorem mk_lead {N : Nat} (hN : 6 ≤ N) {a : D} {xs : List Int} {t : Int} {μ : Mu} (h : isA a (xs.map .int) μ) (h1 : 1 ≤ xs.length) (h5 : xs.length ≤ 5) (hx : ∀ x ∈ xs, 0 ≤ x ∧ x < t) (t1 : 1 ≤ t) (t5 : t ≤ 5) : (lev T N).mkc 8 [.int t, a] μ = .ok (leadD t xs) μ := by
  obtain ⟨n, rfl⟩ : ∃ n, N = n + 6 := ⟨N - 6, by omega⟩
  exact mk_0 (i := ⟨[8], some 32, _, 0, [4, 5, 6]⟩) rfl rfl rfl (lead_init (show 5 ≤ n + 5 by omega) h h1 h5 hx t1 t5)
theorem f4 (n : Nat) (t : Int) (xs : List Int) (μ : Mu) : fldD (lev T n) 4 (leadD t xs) μ = .ok (.int (xs.length : Nat)) μ := fld_obj (hF n 4 (by simp)) rfl
theorem f5 (n : Nat) (t : Int) (xs : List Int) (μ : Mu) : fldD (lev T n) 5 (leadD t xs) μ = .ok (.int t) μ := fld_obj (hF n 5 (by simp)) rfl
theorem f6 (n : Nat) (t : Int) (xs : List Int) (μ : Mu) : fldD (lev T n) 6 (leadD t xs) μ = .ok (.tup (xs.map .int)) μ := fld_obj (hF n 6 (by simp)) rfl
@[simp] theorem lead_cell (t : Int) (xs : List Int) : (leadD t xs).isCell = false := rfl
theorem lead_eq {N : Nat} (hN : 1 ≤ N) (t u : Int) (xs ys : List Int) (μ : Mu) : callF T N 34 [leadD t xs, leadD u ys] μ = .ok (.bl (decide (t = u ∧ xs = ys))) μ := by
  obtain ⟨n, rfl⟩ : ∃ n, N = n + 1 := ⟨N - 1, by omega⟩
  rw [callF_run (show T.fn 34 = some d_Lead_eq from rfl) rfl]
  have e : tyAny (lev T n) μ (leadD u ys) [.cls 8] = some true := by
    unfold tyAny tyIs leadD tyC
    simp only [T_lev]
    rfl
  by_cases h : t = u
  · simp [d_Lead_eq, startR, e, f5, f6, h, iteB_t]
  · simp [d_Lead_eq, startR, e, f5, f6, h, iteB_t, iteB_f]
theorem lead_ne {N : Nat} (hN : 1 ≤ N) (t : Int) (xs : List Int) (d : D) (μ : Mu) (h : tyAny (lev T (N - 1)) μ d [.cls 8] = some false) : callF T N 34 [leadD t xs, d] μ = .ok (.bl false) μ := by
  obtain ⟨n, rfl⟩ : ∃ n, N = n + 1 := ⟨N - 1, by omega⟩
  rw [callF_run (show T.fn 34 = some d_Lead_eq from rfl) rfl]
  have h' : tyAny (lev T n) μ d [.cls 8] = some false := h
  simp [d_Lead_eq, startR, h', iteB_f]
theorem meq (n : Nat) : methOf (lev T n) 8 mEq = some 34 := by
  unfold methOf
  rw [T_lev]
  rfl
theorem eqD_lead {n : Nat} (hn : 1 ≤ n) (t u : Int) (xs ys : List Int) (μ : Mu) : eqD (lev T n) (leadD t xs) (leadD u ys) μ = .ok (decide (t = u ∧ xs = ys)) μ := by
  have k : tyKn (lev T n) (leadD u ys) = true := by
    unfold tyKn leadD
    simp only [T_lev]
    rfl
  unfold eqD
  show (match methOf (lev T n) 8 mEq, tyKn (lev T n) (leadD u ys) with | some f, true => _ | _, _ => _) = _
  rw [meq, k]
  dsimp only
  rw [cf_lev, lead_eq hn]
  rfl
end K05
end

section
set_option maxRecDepth 100000
set_option maxHeartbeats 4000000
namespace K05
open PySem PySem.Spec PyProof.Rows L2 KP
/-! manners by their places -/
def MN : List Str := ["blind", "rank", "either", "least", "ends", "one", "two", "alike", "order"]
def mn (i : Nat) : Str := MN.getD i ""
def mD (i : Nat) : D := .str (mn i)
def mT : D := .tup ((List.range 9).map mD)
@[simp] theorem mD_cell (i : Nat) : (mD i).isCell = false := rfl
@[simp] theorem mD_str (cx : Cxt) (i : Nat) (μ : Mu) : tyAny cx μ (mD i) [.str] = some true := rfl
theorem mn_ok : ∀ i < 9, PyData.strOk (mn i) = true := by decide +kernel
theorem mn_inj : ∀ i < 9, ∀ j < 9, decide (mn i = mn j) = decide (i = j) := by decide +kernel
theorem eqM {cx : Cxt} {i j : Nat} {μ : Mu} (hi : i < 9) (hj : j < 9) : eqD cx (mD i) (mD j) μ = .ok (decide (i = j)) μ := by
  unfold mD
  rw [KP.eqD_str (mn_ok i hi) (mn_ok j hj), mn_inj i hi j hj]
theorem mD_dat {i : Nat} (h : i < 9) (n : Nat) : dat (mD i) (n + 1) = true := by
  show PyData.strOk (mn i) = true
  exact mn_ok i h
theorem datL_m {js : List Nat} (h : ∀ j ∈ js, j < 9) (n : Nat) : datL (js.map mD) (n + 1) = true := by
  induction js with
  | nil => rfl
  | cons j r ih =>
    rw [List.map_cons]
    unfold datL
    rw [mD_dat (h j (by simp)), ih (fun k hk => h k (List.mem_cons_of_mem _ hk))]
    rfl
theorem any_m {i : Nat} (hi : i < 9) {js : List Nat} (h : ∀ j ∈ js, j < 9) : ((js.map mD).any fun x => eqv x (mD i)) = decide (i ∈ js) := by
  induction js with
  | nil => rfl
  | cons j r ih =>
    rw [List.map_cons, List.any_cons, ih (fun k hk => h k (List.mem_cons_of_mem _ hk))]
    show (eqv (.str (mn j)) (.str (mn i)) || _) = _
    rw [KP.eqv_str, mn_inj j (h j (by simp)) i hi]
    by_cases q : j = i
    · simp [q]
    · have : ¬ i = j := fun e => q e.symm
      simp [q, this]
theorem innM {i : Nat} (hi : i < 9) (js : List Nat) (h : ∀ j ∈ js, j < 9) (μ : Mu) : innD (mD i) (.tup (js.map mD)) μ = .ok (decide (i ∈ js)) μ := by
  show (match (dat (mD i) 60 && datL (js.map mD) 60) with
    | true => R.ok ((js.map mD).any fun x => eqv x (mD i)) μ
    | false => .stuck) = _
  rw [mD_dat hi 59, datL_m h 59, any_m hi h]
  rfl
theorem inn2 {i : Nat} (hi : i < 9) (a b : Nat) (ha : a < 9) (hb : b < 9) (μ : Mu) : innD (mD i) (.tup [mD a, mD b]) μ = .ok (decide (i = a ∨ i = b)) μ := by
  have := innM hi [a, b] (by simp [ha, hb]) μ
  simpa using this
theorem inn3 {i : Nat} (hi : i < 9) (a b c : Nat) (ha : a < 9) (hb : b < 9) (hc : c < 9) (μ : Mu) : innD (mD i) (.tup [mD a, mD b, mD c]) μ = .ok (decide (i = a ∨ i = b ∨ i = c)) μ := by
  have := innM hi [a, b, c] (by simp [ha, hb, hc]) μ
  simpa using this
theorem inn4 {i : Nat} (hi : i < 9) (a b c d : Nat) (ha : a < 9) (hb : b < 9) (hc : c < 9) (hd : d < 9) (μ : Mu) : innD (mD i) (.tup [mD a, mD b, mD c, mD d]) μ = .ok (decide (i = a ∨ i = b ∨ i = c ∨ i = d)) μ := by
  have := innM hi [a, b, c, d] (by simp [ha, hb, hc, hd]) μ
  simpa using this
theorem innT {i : Nat} (hi : i < 9) (μ : Mu) : innD (mD i) mT μ = .ok true μ := by
  unfold mT
  rw [innM hi _ (by simp)]
  simp [hi]
def kn (i : Nat) : Nat := if i = 5 then 1 else if i = 6 then 2 else 0
theorem kget_m {cx : Cxt} (μ : Mu) : ∀ {i : Nat}, i < 9 → opD cx (.kget kt_KNOWN) [mD i, .int 0] μ = .ok (.int (kn i : Nat)) μ := by
  have h : ∀ i < 9, (tlk kt_KNOWN (mn i)).getD (.int 0) = .int (kn i : Nat) := by decide +kernel
  intro i hi
  show R.ok ((tlk kt_KNOWN (mn i)).getD (.int 0)) μ = _
  rw [h i hi]
theorem kidx_two {cx : Cxt} (μ : Mu) : opD cx (.kidx kt_KNOWN) [mD 6] μ = .ok (.int 2) μ := rfl
def m_need_manner : Def := ⟨2, 2, false, [.ife (.or (.op .not [.op (.isi [.str]) [.v 0]]) (.op .nin [.v 0, .c mT])) [.rai 3 [.v 1]] []]⟩
def m_need_let : Def := ⟨2, 2, false, [.ife (.and (.op .eq [.v 0, .c (mD 6)]) (.op .lt [.v 1, .op (.kidx kt_KNOWN) [.v 0]])) [.rai 4 [.c (.str "things")]] []]⟩
def m_is_row_of : Def := ⟨3, 4, false, [.ife (.op .eq [.v 0, .c (mD 1)]) [.ret (.call 11 [.v 1] [0])] [], .ife (.op .eq [.v 0, .c (mD 2)]) [.ret (.or (.call 11 [.v 1] [0]) (.call 11 [.op .rev [.v 1]] [0]))] [], .ife (.op .eq [.v 0, .c (mD 3)]) [.ret (.and (.op .eq [.op .idx [.v 1, .c (.int 0)], .c (.int 0)]) (.call 11 [.v 1] [0]))] [], .ife (.op .eq [.v 0, .c (mD 4)]) [.ret (.and (.call 12 [.v 1, .v 2] [0, 1]) (.call 11 [.v 1] [0]))] [], .ife (.op .eq [.v 0, .c (mD 7)]) [.ret (.op .eq [.op .lenset [.v 1], .op .len [.v 1]])] [], .ife (.op .eq [.v 0, .c (mD 8)]) [.ret (.and (.call 11 [.v 1] [0]) (.op .eq [.op .lenset [.v 1], .op .len [.v 1]]))] [], .set 3 (.op (.kget kt_KNOWN) [.v 0, .c (.int 0)]), .ret (.op .eq [.slU (.v 1) (.v 3), .op .trng [.v 3]])]⟩
theorem F9 : T.fn 9 = some m_need_manner := rfl
theorem F10 : T.fn 10 = some m_need_let := rfl
theorem F13 : T.fn 13 = some m_is_row_of := rfl
section
variable {N i : Nat}
theorem need_manner (hN : 1 ≤ N) (hi : i < 9) (p : D) (μ : Mu) : callF T N 9 [mD i, p] μ = .ok .non μ := by
  obtain ⟨n, rfl⟩ : ∃ n, N = n + 1 := ⟨N - 1, by omega⟩
  rw [callF_run F9 rfl]
  simp [m_need_manner, startR, innT hi, iteB_f]
/-- may this manner be asked over so few things -/
def mayI (i : Nat) (k : Int) : Bool := decide (i ≠ 6) || decide (1 < k)
theorem need_let (hN : 1 ≤ N) (hi : i < 9) {k : Int} (h : mayI i k = true) (μ : Mu) : callF T N 10 [mD i, .int k] μ = .ok .non μ := by
  obtain ⟨n, rfl⟩ : ∃ n, N = n + 1 := ⟨N - 1, by omega⟩
  rw [callF_run F10 rfl]
  by_cases q : i = 6
  · subst q
    have hk : ¬ k < 2 := by simp [mayI] at h; omega
    simp [m_need_let, startR, eqM hi (show 6 < 9 by omega), kidx_two, hk, iteB_f, iteB_t]
  · simp [m_need_let, startR, eqM hi (show 6 < 9 by omega), q, iteB_f, iteB_t]
/-! rows that never fall -/
def nf (xs : List Int) : Bool := (prs xs).all fun p => decide (p.1 ≤ p.2)
theorem slc1 {xs : List Int} (h : 1 ≤ xs.length) (μ : Mu) : slcD (.tup (xs.map .int)) (some 1) none μ = .ok (.tup ((xs.drop 1).map .int)) μ := by
  show R.ok (D.tup (cut (xs.map .int) (some 1) none)) μ = _
  rw [cut_drop (by omega) (by rw [List.length_map]; omega), List.map_drop]
  rfl
theorem never_falls (hN : 1 ≤ N) {xs : List Int} (h1 : 1 ≤ xs.length) (h5 : xs.length ≤ 1000) (μ : Mu) : callF T N 11 [.tup (xs.map .int)] μ = .ok (.bl (nf xs)) μ := by
  obtain ⟨n, rfl⟩ : ∃ n, N = n + 1 := ⟨N - 1, by omega⟩
  rw [callF_run (show T.fn 11 = some d_never_falls from rfl) rfl]
  have hp : (prs xs).length ≤ 1000 := by
    unfold prs
    rw [List.length_zip, List.length_drop]
    omega
  have e := fun (a b : Option D) => comp_of (st := still [.tup (xs.map .int), .tup ((xs.drop 1).map .int)] μ) (g := turnC (lev T n) [1, 2] (.op .le [.v 1, .v 2]) (.tp [1, 2]) [] [some (.tup (xs.map .int)), a, b]) (μ := μ) (fun p : Int × Int => .tup [.int p.1, .int p.2]) (fun p => .bl (decide (p.1 ≤ p.2))) (still_plain (by simp) _ _) (prs xs) (fun p _ => rfl) (fun _ _ => rfl)
  have z : zipD (xs.map .int) ((xs.drop 1).map .int) = (prs xs).map fun p => D.tup [.int p.1, .int p.2] := zipD_ints _ _
  have s := slc1 h1 μ
  have hl : ((prs xs).map fun p => D.tup [D.int p.1, D.int p.2]).length ≤ 16777216 := by rw [List.length_map]; omega
  have al := op_allB (cx := lev T n) (fun p : Int × Int => decide (p.1 ≤ p.2)) (prs xs) μ
  unfold nf
  generalize ((prs xs).all fun p => decide (p.1 ≤ p.2)) = v at *
  generalize ((prs xs).map fun p => D.bl (decide (p.1 ≤ p.2))) = bs at *
  generalize ((prs xs).map fun p => D.tup [D.int p.1, D.int p.2]) = zs at *
  generalize (xs.drop 1).map D.int = ys at *
  generalize xs.map D.int = xd at *
  simp only [d_never_falls, startR]
  simp [s, itD_zipT, z, e, al, -op_all, hl]
theorem at0 {xs : List Int} (h1 : 1 ≤ xs.length) (μ : Mu) : idxD (.tup (xs.map .int)) (.int 0) μ = .ok (.int (xs.getD 0 0)) μ := ix_getD (k := 0) (.inl rfl) (by omega)
theorem at_last {xs : List Int} (h1 : 1 ≤ xs.length) (μ : Mu) : idxD (.tup (xs.map .int)) (.int (-1)) μ = .ok (.int (xs.getD (xs.length - 1) 0)) μ := by
  have e : ixOf (xs.map D.int).length (-1) = some (xs.length - 1) := by
    show L2.ixN _ _ = _
    unfold L2.ixN
    rw [List.length_map, if_neg (by omega), if_pos (by omega)]
    congr 1
    omega
  show (match ixOf (xs.map D.int).length (-1) with
    | some j => (match (xs.map D.int)[j]? with
      | some d => R.ok d μ
      | none => .stuck)
    | none => .stuck) = _
  rw [e]
  have hl : xs.length - 1 < xs.length := by omega
  simp [hl, List.getD_eq_getElem?_getD]
theorem has_ends (hN : 1 ≤ N) {xs : List Int} (h1 : 1 ≤ xs.length) (t : Int) (μ : Mu) : callF T N 12 [.tup (xs.map .int), .int t] μ = .ok (.bl (decide (xs.getD 0 0 = 0) && decide (xs.getD (xs.length - 1) 0 = t - 1))) μ := by
  obtain ⟨n, rfl⟩ : ∃ n, N = n + 1 := ⟨N - 1, by omega⟩
  rw [callF_run (show T.fn 12 = some d_has_ends from rfl) rfl]
  have a := at0 h1 μ
  have b := at_last h1 μ
  generalize xs.getD 0 0 = y at *
  generalize xs.getD (xs.length - 1) 0 = z at *
  by_cases q : y = 0
  · simp [d_has_ends, startR, a, b, q, iteB_t]
  · simp [d_has_ends, startR, a, b, q, iteB_f]
def isR (i : Nat) (xs : List Int) (t : Int) : Bool := match i with
  | 1 => nf xs
  | 2 => nf xs || nf xs.reverse
  | 3 => decide (xs.getD 0 0 = 0) && nf xs
  | 4 => (decide (xs.getD 0 0 = 0) && decide (xs.getD (xs.length - 1) 0 = t - 1)) && nf xs
  | 5 => decide (xs.take 1 = idl 1)
  | 6 => decide (xs.take 2 = idl 2)
  | 7 => decide ((setI xs).length = xs.length)
  | 8 => nf xs && decide ((setI xs).length = xs.length)
  | _ => true
theorem slU {xs : List Int} {k : Nat} (h : k ≤ xs.length) (μ : Mu) : slcD (.tup (xs.map .int)) none (some (k : Int)) μ = .ok (.tup ((xs.take k).map .int)) μ := by
  show R.ok (D.tup (cut (xs.map .int) none (some (k : Int)))) μ = _
  rw [cut_take (by omega) (by rw [List.length_map]; omega), List.map_take]
  rfl
theorem op_revT {cx : Cxt} (xs : List Int) (μ : Mu) : opD cx .rev [.tup (xs.map .int)] μ = .ok (.tup (xs.reverse.map .int)) μ := by
  rw [List.map_reverse]
  rfl
theorem is_row_of (hN : 2 ≤ N) (hi : i < 9) {xs : List Int} (h1 : 1 ≤ xs.length) (h5 : xs.length ≤ 1000) (h2 : i = 6 → 2 ≤ xs.length) (t : Int) (μ : Mu) : callF T N 13 [mD i, .tup (xs.map .int), .int t] μ = .ok (.bl (isR i xs t)) μ := by
  obtain ⟨n, rfl⟩ : ∃ n, N = n + 2 := ⟨N - 2, by omega⟩
  rw [callF_run F13 rfl]
  have a := never_falls (show 1 ≤ n + 1 by omega) h1 h5 μ
  have a2 := never_falls (show 1 ≤ n + 1 by omega) (xs := xs.reverse) (by rw [List.length_reverse]; exact h1) (by rw [List.length_reverse]; exact h5) μ
  have b := has_ends (show 1 ≤ n + 1 by omega) h1 t μ
  have c := at0 h1 μ
  have d := op_lenset (cx := lev T (n + 1)) h5 μ
  have e := op_revT (cx := lev T (n + 1)) xs μ
  have ln : lenD (.tup (xs.map .int)) μ = .ok (.int (xs.length : Nat)) μ := by rw [len_tup, List.length_map]
  have k := fun j (hj : j < 9) => kget_m (cx := lev T (n + 1)) μ hj
  have s : slcD (.tup (xs.map .int)) none (some (kn i : Nat)) μ = .ok (.tup ((xs.take (kn i)).map .int)) μ := slU (by
    unfold kn
    split
    · omega
    · split
      · exact h2 (by assumption)
      · omega) μ
  have tr := fun k : Nat => op_trng (cx := lev T (n + 1)) (μ := μ) (k := k)
  have tq := fun p q : List Int => KP.eqD_tupI (cx := lev T (n + 1)) (μ := μ) p q
  match i, hi with
  | 0, hi => simp only [m_is_row_of, startR]; simp [eqM, iteB_t, iteB_f, k, kn, isR] at s ⊢; have t0 : opD (lev T (n + 1)) .trng [.int 0] μ = .ok (.tup []) μ := tr 0 (by omega); have tz : eqD (lev T (n + 1)) (.tup []) (.tup []) μ = .ok true μ := tq [] []; simp [s, t0, tz]
  | 1, hi => simp [m_is_row_of, startR, eqM, iteB_t, iteB_f, a, isR]
  | 2, hi =>
    unfold isR
    generalize xs.reverse.map D.int = rd at *
    generalize xs.map D.int = xd at *
    cases hn : nf xs <;> simp [m_is_row_of, startR, eqM, iteB_t, iteB_f, a, a2, e, isR, hn]
  | 3, hi => by_cases q : xs.getD 0 0 = 0 <;> simp only [m_is_row_of, startR, isR, q] <;> simp [eqM, iteB_t, iteB_f, a, c, -List.getD_eq_getElem?_getD, q]
  | 4, hi =>
    simp only [isR]
    generalize (decide (xs.getD 0 0 = 0) && decide (xs.getD (xs.length - 1) 0 = t - 1)) = z at *
    cases z <;> simp [m_is_row_of, startR, eqM, iteB_t, iteB_f, a, b]
  | 5, hi =>
    have s' : slcD (.tup (xs.map .int)) none (some 1) μ = .ok (.tup ((xs.take 1).map .int)) μ := s
    have t1 : opD (lev T (n + 1)) .trng [.int 1] μ = .ok (.tup ((idl 1).map .int)) μ := tr 1 (by omega)
    have k1 : opD (lev T (n + 1)) (.kget kt_KNOWN) [mD 5, .int 0] μ = .ok (.int 1) μ := k 5 (by omega)
    have q := tq (xs.take 1) (idl 1)
    simp only [isR]
    generalize decide (xs.take 1 = idl 1) = z at *
    clear tq s tr k
    generalize (xs.take 1).map D.int = u at *
    generalize (idl 1).map D.int = v at *
    generalize xs.map D.int = xd at *
    simp [m_is_row_of, startR, eqM, iteB_t, iteB_f, k1, s', t1, q]
  | 6, hi =>
    have s' : slcD (.tup (xs.map .int)) none (some 2) μ = .ok (.tup ((xs.take 2).map .int)) μ := s
    have t1 : opD (lev T (n + 1)) .trng [.int 2] μ = .ok (.tup ((idl 2).map .int)) μ := tr 2 (by omega)
    have k1 : opD (lev T (n + 1)) (.kget kt_KNOWN) [mD 6, .int 0] μ = .ok (.int 2) μ := k 6 (by omega)
    have q := tq (xs.take 2) (idl 2)
    simp only [isR]
    generalize decide (xs.take 2 = idl 2) = z at *
    clear tq s tr k
    generalize (xs.take 2).map D.int = u at *
    generalize (idl 2).map D.int = v at *
    generalize xs.map D.int = xd at *
    simp [m_is_row_of, startR, eqM, iteB_t, iteB_f, k1, s', t1, q]
  | 7, hi => simp [m_is_row_of, startR, eqM, iteB_t, iteB_f, d, ln, isR, Int.natCast_inj]
  | 8, hi => cases hn : nf xs <;> simp [m_is_row_of, startR, eqM, iteB_t, iteB_f, a, d, ln, isR, hn, Int.natCast_inj]
end
end K05
end

section
set_option maxRecDepth 100000
set_option maxHeartbeats 4000000
namespace K05
open PySem PySem.Spec PyProof.Rows L2 KP
section
variable {N i b t : Nat}
def rowsD (t b : Nat) : List D := (rowsI t b).map rowD
theorem any_ints0 (r : List Int) (x : Int) : anyCell (r.map D.int ++ [D.int x]) = false := any_plain fun d hd => by
  rcases List.mem_append.mp hd with h | h
  · obtain ⟨y, _, rfl⟩ := List.mem_map.mp h; rfl
  · rw [List.mem_singleton.mp h]; rfl
theorem pow_le {t b : Nat} (ht : t ≤ 5) (hb : b ≤ 5) : t ^ b ≤ 3125 := by
  have h1 : t ^ b ≤ 5 ^ b := Nat.pow_le_pow_left ht b
  have h2 : (5 : Nat) ^ b ≤ 5 ^ 5 := Nat.pow_le_pow_right (by omega) hb
  omega
theorem all_rows (hN : 1 ≤ N) (ht : t ≤ 5) (hb : b ≤ 5) (μ : Mu) : callF T N 14 [.int (b : Nat), .int (t : Nat)] μ = .ok (.lst (rowsD t b)) μ := by
  obtain ⟨n, rfl⟩ : ∃ n, N = n + 1 := ⟨N - 1, by omega⟩
  rw [callF_run (show T.fn 14 = some d_all_rows from rfl) rfl]
  obtain ⟨ρ', μ', e, ⟨z, rfl⟩, rfl⟩ := forL_inv (st := still [.int (b : Nat)] μ) (g := .nm 3) (b := bodyL (lev T n) [.set 2 (.cmp2 [4, 5] [5] (.tup [.st (.v 4), .v 5]) (.nm 4) .seq [.v 2] [] (.nm 5) .rng1 [.v 1] [])])
    (fun k ρ μ' => (∃ z, ρ = [some (.int (b : Nat)), some (.int (t : Nat)), some (.lst (rowsD t k)), z, none, none]) ∧ μ' = μ) (fun _ _ _ _ => still_plain (by simp) _ _) (rngD 0 b) 0 [some (.int (b : Nat)), some (.int (t : Nat)), some (.lst (rowsD t 0)), none, none, none] μ ⟨⟨none, rfl⟩, rfl⟩ (by
      rintro k ρ μ' x ⟨⟨z, rfl⟩, rfl⟩ hx
      rw [Nat.zero_add] at *
      have hk := (rngD_get hx).2
      have l1 : t ^ (k + 1) ≤ 3125 := pow_le ht (by omega)
      have l0 : t ^ k ≤ 3125 := pow_le ht (by omega)
      have fm : (rowsI t k).flatMap (fun r => (idl t).map fun x => rowD (r ++ [x])) = rowsD t (k + 1) := by
        unfold rowsD
        rw [show rowsI t (k + 1) = (rowsI t k).flatMap fun r => (idl t).map fun x => r ++ [x] from rfl, List.map_flatMap]
        simp [Function.comp_def]
      have c := compO_flat (st := still [.lst (rowsD t k)] μ') (F := turnO (lev T n) [4, 5] [5] (.tup [.st (.v 4), .v 5]) (.nm 4) [] (.nm 5) .rng1 [.v 1] [] [some (.int (b : Nat)), some (.int (t : Nat)), some (.lst (rowsD t k)), some x, none, none]) (μ := μ') rowD (fun r => (idl t).map fun x => rowD (r ++ [x])) (still_plain (by simp) _ _) (rowsI t k) (by
        rw [fm]
        unfold rowsD
        rw [List.length_map, rows_len]
        exact Nat.le_trans l1 (by decide)) (fun r hr acc ha => by
          have hr5 : r.length ≤ 5 := by have := (mem_rows.mp hr).1; omega
          have o := comp_onto (st := still [.int (t : Nat)] μ') (g := turnC (lev T n) [5] (.tup [.st (.v 4), .v 5]) (.nm 5) [] [some (.int (b : Nat)), some (.int (t : Nat)), some (.lst (rowsD t k)), some x, some (rowD r), none]) (μ := μ') D.int (fun x => rowD (r ++ [x])) (still_plain (by simp) _ _) (idl t) (fun y _ => turn0 (by
            show ((R.ok (r.map D.int ++ [D.int y]) μ').bind mkTup) = _
            rw [R.ok_bind]
            unfold mkTup
            rw [any_ints0]
            simp [rowD]
            omega)) (fun _ _ => rfl) acc
          rw [← rngD_idl] at o
          show (match itD .rng1 [.int (t : Nat)] μ' with
            | some ys => if acc.length + ys.length ≤ LN then compL (still [.int (t : Nat)] μ') (turnC (lev T n) [5] (.tup [.st (.v 4), .v 5]) (.nm 5) [] [some (.int (b : Nat)), some (.int (t : Nat)), some (.lst (rowsD t k)), some x, some (rowD r), none]) ys acc μ' else R.stuck
            | none => .stuck) = _
          rw [itD_rng (by omega)]
          dsimp only
          rw [List.length_map, idl_len] at ha
          rw [rngD_len, Int.toNat_natCast, if_pos ha, o])
      rw [fm] at c
      refine ⟨_, [some (.int (b : Nat)), some (.int (t : Nat)), some (.lst (rowsD t (k + 1))), some x, none, none], μ', tgt_nm _ _ _ _, ?_, ⟨_, rfl⟩, rfl⟩
      rw [bodyL_app, w_exs_cons, ex_set, ev_cmp2]
      show (R.bind (R.bind (match itD .seq [.lst (rowsD t k)] μ' with
        | some xs => if xs.length ≤ LN then _ else R.stuck
        | none => R.stuck) _) _) = _
      rw [itD_lst]
      dsimp only
      rw [show (rowsD t k).length = t ^ k by unfold rowsD; rw [List.length_map, rows_len], if_pos (Nat.le_trans l0 (by decide))]
      have c' : compO (still [.lst (rowsD t k)] μ') (turnO (lev T n) [4, 5] [5] (.tup [.st (.v 4), .v 5]) (.nm 4) [] (.nm 5) .rng1 [.v 1] [] [some (.int (b : Nat)), some (.int (t : Nat)), some (.lst (rowsD t k)), some x, none, none]) (rowsD t k) [] μ' = .ok (rowsD t (k + 1)) μ' := c
      show R.bind (R.bind (R.bind (compO (still [.lst (rowsD t k)] μ') (turnO (lev T n) [4, 5] [5] (.tup [.st (.v 4), .v 5]) (.nm 4) [] (.nm 5) .rng1 [.v 1] [] [some (.int (b : Nat)), some (.int (t : Nat)), some (.lst (rowsD t k)), some x, none, none]) (rowsD t k) [] μ') _) _) _ = _
      rw [c']
      rfl)
  rw [rngD_len, Int.toNat_natCast, Nat.zero_add] at e
  have r0 : rowsD t 0 = [.tup []] := rfl
  rw [r0] at e
  have it := itD_rng (n := b) (μ := μ') (by omega)
  generalize rowsD t b = rs at *
  simp [d_all_rows, startR, mkLst, anyCell, mkTup, it, e]
end
end K05
end

section
set_option maxRecDepth 100000
set_option maxHeartbeats 4000000
namespace K05
open PySem PySem.Spec PyProof.Rows L2 KP
section
variable {N i b t : Nat}
/-- the rows of this manner -/
def rowsR (i t b : Nat) : List (List Int) := (rowsI t b).filter fun r => isR i r t
/-- sizes that may be asked -/
structure Ask (i t b : Nat) : Prop where
  hi : i < 9
  b1 : 1 ≤ b
  b5 : b ≤ 5
  t1 : 1 ≤ t
  t5 : t ≤ 5
  may : mayI i (min (b : Int) t) = true
theorem Ask.two (A : Ask i t b) (h : i = 6) : 2 ≤ b ∧ 2 ≤ t := by
  have := A.may
  unfold mayI at this
  simp [h] at this
  omega
theorem mem_rowsR {r : List Int} : r ∈ rowsR i t b ↔ Rw t b r ∧ isR i r t = true := by
  unfold rowsR
  rw [List.mem_filter, mem_rows]
theorem rowsR_len (A : Ask i t b) : (rowsR i t b).length ≤ 3125 := by
  unfold rowsR
  have := List.length_filter_le (fun r => isR i r t) (rowsI t b)
  rw [rows_len] at this
  have := pow_le A.t5 A.b5
  omega
theorem rows_of (hN : 3 ≤ N) (A : Ask i t b) (μ : Mu) : callF T N 15 [mD i, .int (b : Nat), .int (t : Nat)] μ = .ok (.lst ((rowsR i t b).map rowD)) μ := by
  obtain ⟨n, rfl⟩ : ∃ n, N = n + 1 := ⟨N - 1, by omega⟩
  rw [callF_run (show T.fn 15 = some d_rows_of from rfl) rfl]
  have al := all_rows (show 1 ≤ n by omega) A.t5 A.b5 μ
  have c := comp_sel (st := still [.lst (rowsD t b)] μ) (g := turnC (lev T n) [3] (.v 3) (.nm 3) [.call 13 [.v 0, .v 3, .v 2] [0, 1, 2]] [some (mD i), some (.int (b : Nat)), some (.int (t : Nat)), none]) (μ := μ) rowD rowD (fun r => isR i r t) (still_plain (by simp) _ _) (rowsI t b) (fun r hr => by
    have m := mem_rows.mp hr
    have e := is_row_of (show 2 ≤ n by omega) A.hi (xs := r) (by have := A.b1; have := m.1; omega) (by have := A.b5; have := m.1; omega) (fun h => by have := (A.two h).1; have := m.1; omega) t μ
    exact turnS (k := isR i r t) (y := rowD r) (by
      unfold rowD
      simp [e]) (fun _ => rfl)) (fun r _ => rfl)
  have l : (rowsD t b).length ≤ 16777216 := by
    unfold rowsD
    rw [List.length_map, rows_len]
    have := pow_le A.t5 A.b5
    omega
  have c' : compL (still [.lst (rowsD t b)] μ) (turnC (lev T n) [3] (.v 3) (.nm 3) [.call 13 [.v 0, .v 3, .v 2] [0, 1, 2]] [some (mD i), some (.int (b : Nat)), some (.int (t : Nat)), none]) (rowsD t b) [] μ = .ok ((rowsR i t b).map rowD) μ := c
  generalize (rowsR i t b).map rowD = out at *
  generalize rowsD t b = rs at *
  simp [d_rows_of, startR, al, l, c']
theorem need_asked (hN : 4 ≤ N) (A : Ask i t b) (μ : Mu) : callF T N 16 [mD i, .int (b : Nat), .int (t : Nat)] μ = .ok .non μ := by
  obtain ⟨n, rfl⟩ : ∃ n, N = n + 1 := ⟨N - 1, by omega⟩
  rw [callF_run (show T.fn 16 = some d_need_asked from rfl) rfl]
  obtain ⟨hi, b1, b5, t1, t5, may⟩ := A
  have n1 := fun p => need_number (show 3 ≤ n by omega) (x := (b : Nat)) (a := 1) (b := 5) (by omega) (by omega) p μ
  have n2 := fun p => need_number (show 3 ≤ n by omega) (x := (t : Nat)) (a := 1) (b := 5) (by omega) (by omega) p μ
  have m := fun p => need_manner (show 1 ≤ n by omega) hi p μ
  have l := need_let (show 1 ≤ n by omega) hi may μ
  have mi := op_min (cx := lev T n) (b : Nat) (t : Nat) μ
  simp [d_need_asked, startR, n1, n2, m, mi, l]
theorem tyLead (n : Nat) (t : Int) (xs : List Int) (μ : Mu) : tyAny (lev T n) μ (leadD t xs) [.cls 8] = some true := by
  unfold tyAny tyIs leadD tyC
  simp only [T_lev]
  rfl
theorem need_lead (hN : 1 ≤ N) (t : Int) (xs : List Int) (p : D) (μ : Mu) : callF T N 5 [leadD t xs, p] μ = .ok .non μ := by
  obtain ⟨n, rfl⟩ : ∃ n, N = n + 1 := ⟨N - 1, by omega⟩
  rw [callF_run (show T.fn 5 = some d_need_lead from rfl) rfl]
  simp [d_need_lead, startR, tyLead, iteB_f]
theorem Rw.ge (A : Ask i t b) {r : List Int} (h : Rw t b r) : 1 ≤ r.length ∧ r.length ≤ 5 := by
  have := A.b1; have := A.b5; have := h.1; omega
theorem is_of (hN : 3 ≤ N) (A : Ask i t b) {r : List Int} (h : Rw t b r) (μ : Mu) : callF T N 17 [leadD t r, mD i] μ = .ok (.bl (isR i r t)) μ := by
  obtain ⟨n, rfl⟩ : ∃ n, N = n + 1 := ⟨N - 1, by omega⟩
  rw [callF_run (show T.fn 17 = some d_is_of from rfl) rfl]
  have hl := Rw.ge A h
  have m := fun p => need_manner (show 1 ≤ n by omega) A.hi p μ
  have l := need_let (show 1 ≤ n by omega) A.hi A.may μ
  have mi := op_min (cx := lev T n) (b : Nat) (t : Nat) μ
  have nl := fun p => need_lead (show 1 ≤ n by omega) t r p μ
  have e := is_row_of (show 2 ≤ n by omega) A.hi (xs := r) hl.1 (by omega) (fun q => by have := (A.two q).1; have := h.1; omega) t μ
  have g4 := f4 n t r μ
  rw [h.1] at g4
  simp [d_is_of, startR, nl, m, g4, f5, f6, mi, l, e]
theorem leads (hN : 7 ≤ N) (A : Ask i t b) (μ : Mu) : callF T N 18 [mD i, .int (b : Nat), .int (t : Nat)] μ = .ok (.tup ((rowsR i t b).map (leadD t))) μ := by
  obtain ⟨n, rfl⟩ : ∃ n, N = n + 1 := ⟨N - 1, by omega⟩
  rw [callF_run (show T.fn 18 = some d_leads from rfl) rfl]
  have na := need_asked (show 4 ≤ n by omega) A μ
  have ro := rows_of (show 3 ≤ n by omega) A μ
  have c := comp_of (st := still [.lst ((rowsR i t b).map rowD)] μ) (g := turnC (lev T n) [3] (.mk 8 [.v 2, .v 3] [0, 1]) (.nm 3) [] [some (mD i), some (.int (b : Nat)), some (.int (t : Nat)), none]) (μ := μ) rowD (leadD t) (still_plain (by simp) _ _) (rowsR i t b) (fun r hr => turn0 (by
    have m := (mem_rowsR.mp hr).1
    have hl := Rw.ge A m
    have k := mk_lead (show 6 ≤ n by omega) (a := rowD r) (xs := r) (t := (t : Nat)) (μ := μ) (.inr (.inl rfl)) hl.1 hl.2 m.2 (by have := A.t1; omega) (by have := A.t5; omega)
    unfold rowD at k ⊢
    simp [k])) (fun r _ => rfl)
  have l : ((rowsR i t b).map rowD).length ≤ 16777216 := by
    rw [List.length_map]
    have := rowsR_len A
    omega
  generalize (rowsR i t b).map rowD = rs at *
  generalize (rowsR i t b).map (leadD t) = out at *
  simp [d_leads, startR, na, ro, l, c]
theorem many_leads (hN : 5 ≤ N) (A : Ask i t b) (μ : Mu) : callF T N 19 [mD i, .int (b : Nat), .int (t : Nat)] μ = .ok (.int ((rowsR i t b).length : Nat)) μ := by
  obtain ⟨n, rfl⟩ : ∃ n, N = n + 1 := ⟨N - 1, by omega⟩
  rw [callF_run (show T.fn 19 = some d_many_leads from rfl) rfl]
  have na := need_asked (show 4 ≤ n by omega) A μ
  have ro := rows_of (show 3 ≤ n by omega) A μ
  have l : ((rowsR i t b).map rowD).length = (rowsR i t b).length := List.length_map _
  generalize (rowsR i t b).map rowD = rs at *
  simp [d_many_leads, startR, na, ro, l]
theorem idle (hN : 7 ≤ N) (k1 : 1 ≤ b) (k5 : b ≤ 5) (μ : Mu) : callF T N 8 [.int (b : Nat)] μ = .ok (leadD b (idl b)) μ := by
  obtain ⟨n, rfl⟩ : ∃ n, N = n + 1 := ⟨N - 1, by omega⟩
  rw [callF_run (show T.fn 8 = some d_idle from rfl) rfl]
  have n1 := fun p => need_number (show 3 ≤ n by omega) (x := (b : Nat)) (a := 1) (b := 5) (by omega) (by omega) p μ
  have lr := op_lrng (cx := lev T n) (μ := μ) (k := b) (by omega)
  have k := mk_lead (show 6 ≤ n by omega) (a := .lst ((idl b).map .int)) (xs := idl b) (t := (b : Nat)) (μ := μ) (.inl rfl) (by rw [idl_len]; omega) (by rw [idl_len]; omega) (fun x hx => idl_mem hx) (by omega) (by omega)
  have lc : (leadD b (idl b)).isCell = false := rfl
  generalize (idl b).map D.int = is at *
  generalize leadD b (idl b) = ld at *
  simp [d_idle, startR, n1, lr, k, finish_ret lc]
theorem idl_Rw (k : Nat) : Rw k k (idl k) := ⟨idl_len k, fun x hx => idl_mem hx⟩
/-- the row that one row tells of another -/
def ledR (row things : List Int) : List Int := things.map fun j => row.getD j.toNat 0
theorem led (hN : 1 ≤ N) {row ths : List Int} (h : ∀ j ∈ ths, 0 ≤ j ∧ j < (row.length : Nat)) (hl : ths.length ≤ 1000) (μ : Mu) : callF T N 7 [.tup (row.map .int), .tup (ths.map .int)] μ = .ok (.tup ((ledR row ths).map .int)) μ := by
  obtain ⟨n, rfl⟩ : ∃ n, N = n + 1 := ⟨N - 1, by omega⟩
  rw [callF_run (show T.fn 7 = some d_led from rfl) rfl]
  have c := comp_of (st := still [.tup (ths.map .int)] μ) (g := turnC (lev T n) [2] (.op .idx [.v 0, .v 2]) (.nm 2) [] [some (.tup (row.map .int)), some (.tup (ths.map .int)), none]) (μ := μ) D.int (fun j => D.int (row.getD j.toNat 0)) (still_plain (by simp) _ _) ths (fun j hj => turn0 (by
    obtain ⟨h0, h1⟩ := h j hj
    have e := ix_getD (a := .tup (row.map .int)) (xs := row) (k := j.toNat) (μ := μ) (.inl rfl) (by omega)
    rw [Int.toNat_of_nonneg h0] at e
    simp [e])) (fun _ _ => rfl)
  have l : (ths.map D.int).length ≤ 16777216 := by rw [List.length_map]; omega
  have o : (ths.map fun j => D.int (row.getD j.toNat 0)) = (ledR row ths).map .int := by unfold ledR; rw [List.map_map]; rfl
  rw [o] at c
  generalize (ledR row ths).map D.int = out at *
  generalize ths.map D.int = td at *
  generalize row.map D.int = rd at *
  simp [d_led, startR, l, c]
theorem ledR_Rw {t u b : Nat} {row ths : List Int} (h : Rw u t row) (g : Rw t b ths) : Rw u b (ledR row ths) := by
  refine ⟨by unfold ledR; rw [List.length_map]; exact g.1, fun x hx => ?_⟩
  obtain ⟨j, hj, rfl⟩ := List.mem_map.mp hx
  obtain ⟨h0, h1⟩ := g.2 j hj
  have hl : j.toNat < row.length := by rw [h.1]; omega
  have e : row.getD j.toNat 0 = row[j.toNat] := by simp [List.getD_eq_getElem?_getD, hl]
  rw [e]
  exact h.2 _ (List.getElem_mem hl)
theorem then_ (hN : 7 ≤ N) {t u b : Nat} (b1 : 1 ≤ b) (b5 : b ≤ 5) (u1 : 1 ≤ u) (u5 : u ≤ 5) {r s : List Int} (h : Rw t b r) (g : Rw u t s) (μ : Mu) : callF T N 33 [leadD t r, leadD u s] μ = .ok (leadD u (ledR s r)) μ := by
  obtain ⟨n, rfl⟩ : ∃ n, N = n + 1 := ⟨N - 1, by omega⟩
  rw [callF_run (show T.fn 33 = some d_Lead_then from rfl) rfl]
  have nl := fun p => need_lead (show 1 ≤ n by omega) u s p μ
  have g4 := f4 n u s μ
  rw [g.1] at g4
  have l := led (show 1 ≤ n by omega) (row := s) (ths := r) (fun j hj => by rw [g.1]; exact h.2 j hj) (by have := h.1; omega) μ
  have w := ledR_Rw g h
  have k := mk_lead (show 6 ≤ n by omega) (a := .tup ((ledR s r).map .int)) (xs := ledR s r) (t := (u : Nat)) (μ := μ) (.inr (.inl rfl)) (by have := w.1; omega) (by have := w.1; omega) w.2 (by omega) (by omega)
  have lc : (leadD u (ledR s r)).isCell = false := rfl
  have g6 := f6 n u s μ
  have h6 := f6 n t r μ
  have h5 := f5 n t r μ
  have g5 := f5 n u s μ
  generalize (ledR s r).map D.int = out at *
  generalize leadD u (ledR s r) = ld at *
  generalize r.map D.int = rd at *
  generalize s.map D.int = sd at *
  simp [d_Lead_then, startR, nl, g4, g5, g6, h5, h6, iteB_f, l, k, finish_ret lc]
end
end K05
end

section
set_option maxRecDepth 100000
set_option maxHeartbeats 4000000
namespace K05
open PySem PySem.Spec PyProof.Rows L2 KP
def m_law_is : Def := ⟨3, 5, false, [.set 3 (.op .srt [.v 1]), .ife (.or (.and (.op .inn [.v 0, .tup [.c (mD 5), .c (mD 3)]]) (.op .ne [.op .idx [.v 1, .c (.int 0)], .c (.int 0)])) (.and (.op .eq [.v 0, .c (mD 6)]) (.op .ne [.op .tolst [.slU (.v 1) (.c (.int 2))], .lst [.c (.int 0), .c (.int 1)]]))) [.ret (.c (.bl false))] [], .ife (.and (.op .eq [.v 0, .c (mD 4)]) (.or (.op .ne [.op .idx [.v 1, .c (.int 0)], .c (.int 0)]) (.op .ne [.op .idx [.v 1, .op .sub [.op .len [.v 1], .c (.int 1)]], .op .sub [.v 2, .c (.int 1)]]))) [.ret (.c (.bl false))] [], .ife (.and (.op .inn [.v 0, .tup [.c (mD 7), .c (mD 8)]]) (.op .ne [.cmp [4] (.v 4) (.nm 4) .seq [.v 1] [.op .gt [.bm .count (.op .tolst [.v 1]) [.v 4], .c (.int 1)]], .lst []])) [.ret (.c (.bl false))] [], .ife (.op .eq [.v 0, .c (mD 2)]) [.ret (.op .inn [.op .tolst [.v 1], .tup [.v 3, .op .rev [.v 3]]])] [], .ret (.or (.op .inn [.v 0, .tup [.c (mD 0), .c (mD 5), .c (mD 6), .c (mD 7)]]) (.op .eq [.op .tolst [.v 1], .v 3]))]⟩
theorem F23 : T.fn 23 = some m_law_is := rfl
section
variable {N i b t : Nat}
/-- what the law's own counting says -/
def lwI (i : Nat) (xs : List Int) (t : Int) : Bool := match i with
  | 1 => decide (xs = sortI xs)
  | 2 => decide (sortI xs = xs) || decide ((sortI xs).reverse = xs)
  | 3 => decide (xs.getD 0 0 = 0) && decide (xs = sortI xs)
  | 4 => (decide (xs.getD 0 0 = 0) && decide (xs.getD (xs.length - 1) 0 = t - 1)) && decide (xs = sortI xs)
  | 5 => decide (xs.getD 0 0 = 0)
  | 6 => decide (xs.take 2 = [0, 1])
  | 7 => (xs.filter fun x => decide ((1 : Int) < (xs.count x : Nat))).isEmpty
  | 8 => (xs.filter fun x => decide ((1 : Int) < (xs.count x : Nat))).isEmpty && decide (xs = sortI xs)
  | _ => true
theorem op_count {cx : Cxt} (xs : List Int) (x : Int) (μ : Mu) : opD cx .count [.lst (xs.map .int), .int x] μ = .ok (.int ((xs.count x : Nat) : Int)) μ := by
  show (match intsOf (xs.map .int) with | some ns => R.ok (D.int ((ns.count x : Nat) : Int)) μ | none => .stuck) = _
  rw [KP.ints_of]
theorem inn_two (a b c : List Int) (μ : Mu) : innD (.lst (a.map .int)) (.tup [.lst (b.map .int), .lst (c.map .int)]) μ = .ok (decide (b = a) || decide (c = a)) μ := by
  show (match (datL (a.map .int) 59 && datL [D.lst (b.map .int), D.lst (c.map .int)] 60) with
    | true => R.ok ([D.lst (b.map .int), D.lst (c.map .int)].any fun x => eqv x (.lst (a.map .int))) μ
    | false => .stuck) = _
  rw [datL_ints]
  unfold datL datL datL dat dat
  rw [datL_ints, datL_ints]
  show R.ok (eqvL (b.map .int) (a.map .int) || (eqvL (c.map .int) (a.map .int) || false)) μ = _
  rw [eqvL_ints, eqvL_ints, Bool.or_false]
theorem law_is (hN : 1 ≤ N) (hi : i < 9) {xs : List Int} (h1 : 1 ≤ xs.length) (h5 : xs.length ≤ 1000) (h2 : i = 6 → 2 ≤ xs.length) (t : Int) (μ : Mu) : callF T N 23 [mD i, .tup (xs.map .int), .int t] μ = .ok (.bl (lwI i xs t)) μ := by
  obtain ⟨n, rfl⟩ : ∃ n, N = n + 1 := ⟨N - 1, by omega⟩
  rw [callF_run F23 rfl]
  have a := at0 h1 μ
  have al := ix_getD (a := .tup (xs.map .int)) (xs := xs) (k := xs.length - 1) (μ := μ) (.inl rfl) (by omega)
  have ex : ((xs.length - 1 : Nat) : Int) = (xs.length : Int) - 1 := by omega
  rw [ex] at al
  have ln : (xs.map D.int).length = xs.length := List.length_map _
  have s := op_srt (cx := lev T n) xs μ
  have e1 := KP.eqD_lstI (cx := lev T n) (μ := μ) xs (sortI xs)
  have rv : opD (lev T n) .rev [.lst ((sortI xs).map .int)] μ = .ok (.lst ((sortI xs).reverse.map .int)) μ := by
    rw [op_revL, List.length_map, List.map_reverse]
    have hl : (sortI xs).length ≤ LN := by
      have : (sortI xs).length = xs.length := by
        have q : ∀ (x : Int) (l : List Int), (insS x l).length = l.length + 1 := fun x l => by
          induction l with
          | nil => rfl
          | cons y r ih =>
            unfold insS
            split
            · rfl
            · simp [ih]
        clear h1 h5 h2 a al ex ln s e1
        induction xs with
        | nil => rfl
        | cons x r ih => show (insS x (sortI r)).length = _; rw [q, ih]; rfl
      rw [this]
      exact Nat.le_trans h5 (by decide)
    rw [if_pos hl]
  have it := inn_two xs (sortI xs) (sortI xs).reverse μ
  have su : 2 ≤ xs.length → slcD (.tup (xs.map .int)) none (some 2) μ = .ok (.tup ((xs.take 2).map .int)) μ := fun h => slU h μ
  have tk : eqD (lev T n) (.lst ((xs.take 2).map .int)) (.lst [.int 0, .int 1]) μ = .ok (decide (xs.take 2 = [0, 1])) μ := KP.eqD_lstI (xs.take 2) [0, 1]
  have c := fun (z : D) => comp_sel (st := still [.tup (xs.map .int)] μ) (g := turnC (lev T n) [4] (.v 4) (.nm 4) [.op .gt [.bm .count (.op .tolst [.v 1]) [.v 4], .c (.int 1)]] [some (mD i), some (.tup (xs.map .int)), some (.int t), some z, none]) (μ := μ) D.int D.int (fun x => decide ((1 : Int) < (xs.count x : Nat))) (still_plain (by simp) _ _) xs (fun x hx => by
    have e := op_count (cx := lev T n) xs x μ
    have r : recvOk .count μ (.lst (xs.map .int)) = true := rfl
    generalize xs.map D.int = xd at *
    exact turnS (k := decide ((1 : Int) < (xs.count x : Nat))) (y := .int x) (by simp [e, r]) (fun _ => rfl)) (fun _ _ => rfl)
  have nl := eq_nilI (cx := lev T n) (xs.filter fun x => decide ((1 : Int) < (xs.count x : Nat))) μ
  have l : (xs.map D.int).length ≤ 16777216 := by rw [List.length_map]; omega
  unfold lwI
  generalize (xs.filter fun x => decide ((1 : Int) < (xs.count x : Nat))).isEmpty = v7 at *
  generalize (xs.filter fun x => decide ((1 : Int) < (xs.count x : Nat))).map D.int = d7 at *
  generalize decide (xs.take 2 = [0, 1]) = v6 at *
  generalize (xs.take 2).map D.int = d6 at *
  generalize xs.getD 0 0 = y0 at *
  generalize xs.getD (xs.length - 1) 0 = y1 at *
  generalize decide (xs = sortI xs) = vs at *
  generalize (decide (sortI xs = xs) || decide ((sortI xs).reverse = xs)) = v2 at *
  generalize (sortI xs).reverse.map D.int = rd at *
  generalize (sortI xs).map D.int = sd at *
  generalize xs.map D.int = xd at *
  match i, hi with
  | 0, hi => simp [m_law_is, startR, mkTup, mkLst, anyCell, s, inn2, inn4, eqM, iteB_t, iteB_f]
  | 1, hi => cases vs <;> simp [m_law_is, startR, mkTup, mkLst, anyCell, s, inn2, inn4, eqM, iteB_t, iteB_f, e1]
  | 2, hi => cases v2 <;> simp [m_law_is, startR, mkTup, mkLst, anyCell, s, inn2, inn4, eqM, iteB_t, iteB_f, rv, it]
  | 3, hi => by_cases q : y0 = 0 <;> cases vs <;> simp [m_law_is, startR, mkTup, mkLst, anyCell, s, inn2, inn4, eqM, iteB_t, iteB_f, e1, a, q]
  | 4, hi => by_cases q : y0 = 0 <;> by_cases q1 : y1 = t - 1 <;> cases vs <;> simp [m_law_is, startR, mkTup, mkLst, anyCell, s, inn2, inn4, eqM, iteB_t, iteB_f, e1, a, q, ln, al, q1]
  | 5, hi => by_cases q : y0 = 0 <;> simp [m_law_is, startR, mkTup, mkLst, anyCell, s, inn2, inn4, eqM, iteB_t, iteB_f, a, q]
  | 6, hi => cases v6 <;> simp [m_law_is, startR, mkTup, mkLst, anyCell, s, inn2, inn4, eqM, iteB_t, iteB_f, su (h2 rfl), tk]
  | 7, hi => cases v7 <;> simp [m_law_is, startR, mkTup, mkLst, anyCell, s, inn2, inn4, eqM, iteB_t, iteB_f, c, nl, l]
  | 8, hi => cases v7 <;> cases vs <;> simp [m_law_is, startR, mkTup, mkLst, anyCell, s, inn2, inn4, eqM, iteB_t, iteB_f, c, nl, l, e1]
def agreeB (t b : Nat) : Bool := (rowsI t b).all fun r => (List.range 9).all fun i => lwI i r t == isR i r t
theorem agree_all : (∀ b ∈ [1, 2, 3, 4, 5], ∀ t ∈ [1, 2, 3, 4, 5], agreeB t b = true) := by decide +kernel
theorem agree (A : Ask i t b) {r : List Int} (h : Rw t b r) : lwI i r t = isR i r t := by
  have hb := A.b1; have hb5 := A.b5; have ht := A.t1; have ht5 := A.t5
  have q := agree_all b (by simp; omega) t (by simp; omega)
  unfold agreeB at q
  have w := List.all_eq_true.mp (List.all_eq_true.mp q r (mem_rows.mpr h)) i (List.mem_range.mpr A.hi)
  exact eq_of_beq w
end
end K05
end

section
set_option maxRecDepth 100000
set_option maxHeartbeats 4000000
namespace K05
open PySem PySem.Spec PyProof.Rows L2 KP
theorem op_app {cx : Cxt} {m : Nat} {xs : List D} {d : D} {μ : Mu} (h : μ[m]? = some (.lst xs)) (hd : d.isCell = false) (hl : xs.length < 16777216) : opD cx .app [.cell m, d] μ = .ok .non (μ.set m (.lst (xs ++ [d]))) := by
  show (match μ[m]? with
    | some (.lst xs) => if d.isCell then R.stuck else if xs.length < LN then R.ok D.non (μ.set m (.lst (xs ++ [d]))) else .stuck
    | _ => .stuck) = _
  rw [h]
  show (if d.isCell = true then R.stuck else _) = _
  rw [hd, if_neg (by simp), if_pos hl]
theorem recv_app {m : Nat} {xs : List D} {μ : Mu} (h : μ[m]? = some (.lst xs)) : recvOk .app μ (.cell m) = true := by
  show (lstOf μ (.cell m)).isSome = true
  rw [lstOf_cell h]
  rfl
theorem get_mid {α : Type} (μ ν : List α) (x : α) : ((μ ++ [x]) ++ ν)[μ.length]? = some x := by
  rw [List.append_assoc]
  simp
theorem set_mid {α : Type} (μ ν : List α) (x y : α) : ((μ ++ [x]) ++ ν).set μ.length y = (μ ++ [y]) ++ ν := by
  rw [List.append_assoc, List.append_assoc, List.set_append_right _ _ (Nat.le_refl _), Nat.sub_self]
  rfl
section
variable {N b t : Nat}
/-- the figures of a number, the last one first -/
def dgs (t b k : Nat) : List Int := (List.range b).map fun m => ((k / t ^ m % t : Nat) : Int)
theorem dgs_snoc (t b k : Nat) : dgs t (b + 1) k = dgs t b k ++ [((k / t ^ b % t : Nat) : Int)] := by
  unfold dgs
  rw [List.range_succ, List.map_append]
  rfl
theorem dgs_len (t b k : Nat) : (dgs t b k).length = b := by simp [dgs]
def rowsN (t b k : Nat) : List (List Int) := (List.range k).map fun j => (dgs t b j).reverse
theorem rowsN_snoc (t b k : Nat) : rowsN t b (k + 1) = rowsN t b k ++ [(dgs t b k).reverse] := by
  unfold rowsN
  rw [List.range_succ, List.map_append]
  rfl
theorem rowsN_all : ∀ b ∈ [1, 2, 3, 4, 5], ∀ t ∈ [1, 2, 3, 4, 5], rowsN t b (t ^ b) = rowsI t b := by decide +kernel
theorem mul_t {t : Nat} (t5 : t ≤ 5) (z : Int) (ν : Mu) : mulD (.int z) (.int (t : Nat)) ν = .ok (.int (z * t)) ν := by rw [KP.mul_int, if_pos (.inr ⟨by omega, by omega⟩)]
theorem prod_body {n : Nat} (t5 : t ≤ 5) (x z : Option D) (c : D) (y : Int) (μ : Mu) : bodyL (lev T n) [.set 4 (.op .mul [.v 4, .v 1])] [some (.int (b : Nat)), some (.int (t : Nat)), x, none, some (.int y), some c, none, none] μ = .ok (.nx [some (.int (b : Nat)), some (.int (t : Nat)), x, none, some (.int (y * t)), some c, none, none]) μ := by
  have hm := mul_t t5 y μ
  simp [-KP.mul_int, hm]
theorem prod_loop {n : Nat} (b5 : b ≤ 5) (t5 : t ≤ 5) (c : D) (μ : Mu) : ∃ z2, forL (still [.int (b : Nat)] μ) (.nm 2) (bodyL (lev T n) [.set 4 (.op .mul [.v 4, .v 1])]) (rngD 0 b) [some (.int (b : Nat)), some (.int (t : Nat)), none, none, some (.int 1), some c, none, none] μ = .ok (.nx [some (.int (b : Nat)), some (.int (t : Nat)), z2, none, some (.int ((t ^ b : Nat) : Int)), some c, none, none]) μ := by
  obtain ⟨ρ1, μ1, e1, ⟨z2, y, hy, rfl⟩, rfl⟩ := forL_inv (st := still [.int (b : Nat)] μ) (g := .nm 2) (b := bodyL (lev T n) [.set 4 (.op .mul [.v 4, .v 1])])
    (fun k ρ μ' => (∃ z y, y = ((t ^ k : Nat) : Int) ∧ ρ = [some (.int (b : Nat)), some (.int (t : Nat)), z, none, some (.int y), some c, none, none]) ∧ μ' = μ) (fun _ _ _ _ => still_plain (by simp) _ _) (rngD 0 b) 0 [some (.int (b : Nat)), some (.int (t : Nat)), none, none, some (.int 1), some c, none, none] _ ⟨⟨none, 1, by rw [Nat.pow_zero]; rfl, rfl⟩, rfl⟩ (by
      rintro k ρ μ' x ⟨⟨z, y, hy, rfl⟩, rfl⟩ hx
      rw [Nat.zero_add] at *
      exact ⟨_, _, _, tgt_nm _ _ _ _, prod_body t5 _ z c y _, ⟨_, y * t, by rw [hy, Nat.pow_succ, Int.natCast_mul], rfl⟩, rfl⟩)
  rw [rngD_len, Int.toNat_natCast, Nat.zero_add] at hy
  rw [hy] at e1
  exact ⟨z2, e1⟩
def inB : List S := [.ex (.bm .app (.v 6) [.op .mod [.op .toi [.v 7], .v 1]]), .set 7 (.op .fdiv [.op .toi [.v 7], .v 1])]
theorem in_body {n : Nat} (t1 : 1 ≤ t) (t5 : t ≤ 5) (x z3 z4 z5 : Option D) (q : Int) (dd : List D) (hd : dd.length ≤ 1000) (μa : Mu) : bodyL (lev T n) inB [some (.int (b : Nat)), some (.int (t : Nat)), x, z3, z4, z5, some (.cell μa.length), some (.int q)] (μa ++ [.lst dd]) = .ok (.nx [some (.int (b : Nat)), some (.int (t : Nat)), x, z3, z4, z5, some (.cell μa.length), some (.int (q / t))]) (μa ++ [.lst (dd ++ [.int (q % t)])]) := by
  have gl := get_last μa (M.lst dd)
  have r := recv_app gl
  have ap := op_app (cx := lev T n) (d := .int (q % t)) gl rfl (by omega)
  rw [set_last] at ap
  have tb : (t : Int) < 1073741824 := by omega
  simp [inB, r, ap, show 0 < t by omega, tb]
theorem in_loop {n : Nat} (t1 : 1 ≤ t) (b5 : b ≤ 5) (t5 : t ≤ 5) (z2 z3 z4 z5 : Option D) (k : Nat) (μa : Mu) : ∃ w2 q, forL (still [.int (b : Nat)] (μa ++ [.lst []])) (.nm 2) (bodyL (lev T n) inB) (rngD 0 b) [some (.int (b : Nat)), some (.int (t : Nat)), z2, z3, z4, z5, some (.cell μa.length), some (.int (k : Nat))] (μa ++ [.lst []]) = .ok (.nx [some (.int (b : Nat)), some (.int (t : Nat)), w2, z3, z4, z5, some (.cell μa.length), some (.int q)]) (μa ++ [.lst ((dgs t b k).map .int)]) := by
  obtain ⟨ρ3, μ3, e3, ⟨w2, q, hq, rfl⟩, rfl⟩ := forL_inv (st := still [.int (b : Nat)] (μa ++ [.lst []])) (g := .nm 2) (b := bodyL (lev T n) inB)
    (fun j ρ μ' => (∃ z q, q = ((k / t ^ j : Nat) : Int) ∧ ρ = [some (.int (b : Nat)), some (.int (t : Nat)), z, z3, z4, z5, some (.cell μa.length), some (.int q)]) ∧ μ' = μa ++ [.lst ((dgs t j k).map .int)]) (fun _ _ _ _ => still_plain (by simp) _ _) (rngD 0 b) 0 [some (.int (b : Nat)), some (.int (t : Nat)), z2, z3, z4, z5, some (.cell μa.length), some (.int (k : Nat))] (μa ++ [.lst []]) ⟨⟨z2, _, by rw [Nat.pow_zero, Nat.div_one], rfl⟩, rfl⟩ (by
      rintro j ρ μ' x ⟨⟨z, q, hq, rfl⟩, rfl⟩ hx
      rw [Nat.zero_add] at *
      have hj := (rngD_get hx).2
      have e := in_body (n := n) (b := b) t1 t5 (some x) z3 z4 z5 q ((dgs t j k).map .int) (by rw [List.length_map, dgs_len]; omega) μa
      have ds : (dgs t (j + 1) k).map D.int = (dgs t j k).map D.int ++ [D.int (q % t)] := by
        rw [dgs_snoc, List.map_append, hq, Int.natCast_emod]; rfl
      rw [← ds] at e
      exact ⟨_, _, _, tgt_nm _ _ _ _, e, ⟨_, q / t, by rw [hq, Nat.pow_succ, ← Nat.div_div_eq_div_mul, Int.natCast_ediv (k / t ^ j)], rfl⟩, rfl⟩)
  rw [rngD_len, Int.toNat_natCast, Nat.zero_add] at e3
  exact ⟨w2, q, e3⟩
def outB : List S := [.par [6, 7] [.nw (.lst []), .v 3], .for (.nm 2) .rng1 [.v 0] inB, .ex (.bm .app (.v 5) [.op .totup [.op .rev [.v 6]]])]
theorem out_body {n : Nat} (t1 : 1 ≤ t) (b5 : b ≤ 5) (t5 : t ≤ 5) (z2 z4 z6 z7 : Option D) (k : Nat) (F : List D) (hF : F.length < 16777216) (μ ν : Mu) : ∃ w2 w6 w7 ν', bodyL (lev T n) outB [some (.int (b : Nat)), some (.int (t : Nat)), z2, some (.int (k : Nat)), z4, some (.cell μ.length), z6, z7] ((μ ++ [M.lst F]) ++ ν) = .ok (.nx [some (.int (b : Nat)), some (.int (t : Nat)), w2, some (.int (k : Nat)), z4, some (.cell μ.length), w6, w7]) ((μ ++ [.lst (F ++ [rowD (dgs t b k).reverse])]) ++ ν') := by
  obtain ⟨w2, q, e3⟩ := in_loop (n := n) (b := b) t1 b5 t5 z2 (some (.int (k : Nat))) z4 (some (.cell μ.length)) k ((μ ++ [M.lst F]) ++ ν)
  refine ⟨w2, some (.cell ((μ ++ [M.lst F]) ++ ν).length), some (.int q), ν ++ [.lst ((dgs t b k).map .int)], ?_⟩
  rw [← List.append_assoc]
  have gl := get_last ((μ ++ [M.lst F]) ++ ν) (M.lst ((dgs t b k).map .int))
  have rv : opD (lev T n) .rev [.cell ((μ ++ [M.lst F]) ++ ν).length] (((μ ++ [M.lst F]) ++ ν) ++ [.lst ((dgs t b k).map .int)]) = .ok (.lst ((dgs t b k).reverse.map .int)) (((μ ++ [M.lst F]) ++ ν) ++ [.lst ((dgs t b k).map .int)]) := by
    show (match lstOf (((μ ++ [M.lst F]) ++ ν) ++ [.lst ((dgs t b k).map .int)]) (.cell ((μ ++ [M.lst F]) ++ ν).length) with
      | some xs => if xs.length ≤ LN then R.ok (D.lst xs.reverse) _ else .stuck
      | none => .stuck) = _
    rw [lstOf_cell gl]
    dsimp only
    rw [List.length_map, dgs_len, if_pos (by rw [LN_eq]; omega), List.map_reverse]
  have sh : ((μ ++ [M.lst F]) ++ ν) ++ [M.lst ((dgs t b k).map .int)] = (μ ++ [M.lst F]) ++ (ν ++ [.lst ((dgs t b k).map .int)]) := by rw [List.append_assoc]
  have gm := get_mid μ (ν ++ [.lst ((dgs t b k).map .int)]) (M.lst F)
  rw [← sh] at gm
  have r := recv_app gm
  have ap := op_app (cx := lev T n) (d := .tup ((dgs t b k).reverse.map .int)) gm rfl hF
  rw [sh, set_mid, ← List.append_assoc] at ap
  have ib := itD_rng (n := b) (μ := ((μ ++ [M.lst F]) ++ ν) ++ [.lst []]) (by omega)
  unfold rowD
  generalize hs : (μ ++ [M.lst F]) ++ ν = μa at *
  generalize (dgs t b k).reverse.map D.int = dr at *
  generalize (dgs t b k).map D.int = dd at *
  simp [outB, mkLst, anyCell, thawR, thaw, ib, e3, r, rv, ap]
theorem out_loop {n : Nat} (t1 : 1 ≤ t) (b5 : b ≤ 5) (t5 : t ≤ 5) (z2 : Option D) (tb : Nat) (htb : tb ≤ 3125) (μ : Mu) : ∃ ρ' ν, forL (still [.int (tb : Nat)] (μ ++ [.lst []])) (.nm 3) (bodyL (lev T n) outB) (rngD 0 tb) [some (.int (b : Nat)), some (.int (t : Nat)), z2, none, some (.int (tb : Nat)), some (.cell μ.length), none, none] (μ ++ [.lst []]) = .ok (.nx ρ') ((μ ++ [.lst ((rowsN t b tb).map rowD)]) ++ ν) ∧ ρ'[5]? = some (some (.cell μ.length)) := by
  obtain ⟨ρ2, μ2, e2, ⟨y2, y3, y6, y7, ν, rfl, rfl⟩⟩ := forL_inv (st := still [.int (tb : Nat)] (μ ++ [.lst []])) (g := .nm 3) (b := bodyL (lev T n) outB)
    (fun k ρ μ' => ∃ y2 y3 y6 y7 ν, ρ = [some (.int (b : Nat)), some (.int (t : Nat)), y2, y3, some (.int (tb : Nat)), some (.cell μ.length), y6, y7] ∧ μ' = (μ ++ [.lst ((rowsN t b k).map rowD)]) ++ ν) (fun _ _ _ _ => still_plain (by simp) _ _) (rngD 0 (tb : Nat)) 0 [some (.int (b : Nat)), some (.int (t : Nat)), z2, none, some (.int (tb : Nat)), some (.cell μ.length), none, none] (μ ++ [.lst []]) ⟨z2, none, none, none, [], rfl, by rw [List.append_nil]; rfl⟩ (by
      rintro k ρ μ' x ⟨y2, y3, y6, y7, ν, rfl, rfl⟩ hx
      rw [Nat.zero_add] at *
      obtain ⟨rfl, hk⟩ := rngD_get hx
      rw [Int.zero_add] at *
      obtain ⟨w2, w6, w7, ν', e⟩ := out_body (n := n) (b := b) t1 b5 t5 y2 (some (.int (tb : Nat))) y6 y7 k ((rowsN t b k).map rowD) (by rw [List.length_map]; unfold rowsN; rw [List.length_map, List.length_range]; omega) μ ν
      rw [show (rowsN t b k).map rowD ++ [rowD (dgs t b k).reverse] = (rowsN t b (k + 1)).map rowD by rw [rowsN_snoc, List.map_append]; rfl] at e
      exact ⟨_, _, _, tgt_nm _ _ _ _, e, ⟨_, _, _, _, _, rfl, rfl⟩⟩)
  rw [rngD_len, Int.toNat_natCast, Nat.zero_add] at e2
  exact ⟨_, ν, e2, rfl⟩
theorem law_rows (hN : 1 ≤ N) (b1 : 1 ≤ b) (b5 : b ≤ 5) (t1 : 1 ≤ t) (t5 : t ≤ 5) (μ : Mu) : callF T N 24 [.int (b : Nat), .int (t : Nat)] μ = .ok (.lst (rowsD t b)) μ := by
  obtain ⟨n, rfl⟩ : ∃ n, N = n + 1 := ⟨N - 1, by omega⟩
  have hp := pow_le (t := t) (b := b) t5 b5
  rw [callF_run (show T.fn 24 = some d_law_rows from rfl) rfl]
  obtain ⟨z2, e1⟩ := prod_loop (n := n) b5 t5 (.cell μ.length) (μ ++ [.lst []])
  obtain ⟨ρ', ν, e2, h5⟩ := out_loop (n := n) (b := b) t1 b5 t5 z2 (t ^ b) hp μ
  have rn := rowsN_all b (by simp; omega) t (by simp; omega)
  rw [rn] at e2
  have gm := get_mid μ ν (M.lst ((rowsI t b).map rowD))
  have ll : ((rowsI t b).map rowD).length ≤ LN := by rw [List.length_map, rows_len, LN_eq]; omega
  have lv : leave false μ.length (.cell μ.length) ((μ ++ [.lst ((rowsI t b).map rowD)]) ++ ν) = .ok (.lst (rowsD t b)) μ := by
    show (if μ.length < μ.length then _ else (match ((μ ++ [.lst ((rowsI t b).map rowD)]) ++ ν)[μ.length]? with
      | some (.lst xs) => if false = true then _ else if xs.length ≤ LN then R.ok (D.lst xs) _ else R.stuck
      | some (.ins c ns vs) => _
      | some (.dct ks vs) => _
      | _ => R.stuck)) = _
    rw [if_neg (by omega), gm]
    dsimp only
    rw [if_neg (by simp), if_pos ll, List.append_assoc, List.take_left' rfl]
    rfl
  have ib := itD_rng (n := b) (μ := μ ++ [.lst []]) (by omega)
  have it := itD_rng (n := t ^ b) (μ := μ ++ [.lst []]) (by omega)
  have fe : KP.finish d_law_rows μ.length (.ok (.ret (.cell μ.length)) ((μ ++ [.lst ((rowsI t b).map rowD)]) ++ ν)) = .ok (.lst (rowsD t b)) μ := lv
  rw [← fe]
  congr 1
  have gv : getV 5 ρ' ((μ ++ [.lst ((rowsI t b).map rowD)]) ++ ν) = .ok (.cell μ.length) ((μ ++ [.lst ((rowsI t b).map rowD)]) ++ ν) := getV_get h5
  show exs (lev T n) [.par [4, 5] [.c (.int 1), .nw (.lst [])], .for (.nm 2) .rng1 [.v 0] [.set 4 (.op .mul [.v 4, .v 1])], .for (.nm 3) .rng1 [.v 4] outB, .ret (.v 5)] [some (.int (b : Nat)), some (.int (t : Nat)), none, none, none, none, none, none] μ = _
  generalize (rowsI t b).map rowD = rr at *
  generalize ((t ^ b : Nat) : Int) = tb at *
  generalize (μ ++ [M.lst rr]) ++ ν = mf at *
  simp [mkLst, anyCell, thawR, thaw, ib, e1, it, e2, gv]
end
end K05
end

section
set_option maxRecDepth 100000
set_option maxHeartbeats 4000000
namespace K05
open PySem PySem.Spec PyProof.Rows L2 KP
def m_law_many : Def := ⟨3, 7, false, [.par [5, 6] [.call 25 [.op .sub [.op .add [.v 1, .v 2], .c (.int 1)], .v 1] [0, 1], .c (.int 1)], .for (.nm 3) .rng1 [.v 1] [.set 6 (.op .mul [.v 6, .op .max2 [.c (.int 0), .op .sub [.v 2, .v 3]]])], .set 4 (.dct [.inr "blind", .inr "one", .inr "two"] [.c (.int 0), .c (.int 1), .c (.int 2)]), .ife (.op .inn [.v 0, .v 4]) [.ret (.call 26 [.v 2, .op .sub [.v 1, .op .idx [.v 4, .v 0]]] [0, 1])] [], .ife (.op .inn [.v 0, .tup [.c (mD 1), .c (mD 2)]]) [.ret (.ife (.op .eq [.v 0, .c (mD 1)]) (.v 5) (.op .sub [.op .mul [.c (.int 2), .v 5], .v 2]))] [], .ife (.op .eq [.v 0, .c (mD 3)]) [.ret (.call 25 [.op .sub [.op .add [.v 1, .v 2], .c (.int 2)], .op .sub [.v 1, .c (.int 1)]] [0, 1])] [], .ife (.op .eq [.v 0, .c (mD 4)]) [.ret (.ife (.op .gt [.v 1, .c (.int 1)]) (.call 25 [.op .sub [.op .add [.v 1, .v 2], .c (.int 3)], .op .sub [.v 1, .c (.int 2)]] [0, 1]) (.op .toi [.op .eq [.v 2, .c (.int 1)]]))] [], .ret (.ife (.op .eq [.v 0, .c (mD 7)]) (.v 6) (.call 25 [.v 2, .v 1] [0, 1]))]⟩
theorem F27 : T.fn 27 = some m_law_many := rfl
section
variable {N i b t : Nat}
theorem mul_s (z y : Int) (h : -1000 ≤ y ∧ y ≤ 1000) (ν : Mu) : mulD (.int z) (.int y) ν = .ok (.int (z * y)) ν := by rw [KP.mul_int, if_pos (.inr ⟨by omega, by omega⟩)]
def tmI (t : Int) (k : Nat) : Int := (List.range k).foldl (fun f _ => f * t) 1
theorem law_times (hN : 1 ≤ N) {k : Nat} (hk : k ≤ 1000) (t5 : t ≤ 5) (μ : Mu) : callF T N 26 [.int (t : Nat), .int (k : Nat)] μ = .ok (.int (tmI t k)) μ := by
  obtain ⟨n, rfl⟩ : ∃ n, N = n + 1 := ⟨N - 1, by omega⟩
  rw [callF_run (show T.fn 26 = some d_law_times from rfl) rfl]
  obtain ⟨ρ1, μ1, e1, ⟨z, y, hy, rfl⟩, rfl⟩ := forL_inv (st := still [.int (k : Nat)] μ) (g := .nm 3) (b := bodyL (lev T n) [.set 2 (.op .mul [.v 2, .v 0])])
    (fun j ρ μ' => (∃ z y, y = tmI t j ∧ ρ = [some (.int (t : Nat)), some (.int (k : Nat)), some (.int y), z]) ∧ μ' = μ) (fun _ _ _ _ => still_plain (by simp) _ _) (rngD 0 k) 0 [some (.int (t : Nat)), some (.int (k : Nat)), some (.int 1), none] _ ⟨⟨none, _, rfl, rfl⟩, rfl⟩ (by
      rintro j ρ μ' x ⟨⟨z, y, hy, rfl⟩, rfl⟩ hx
      have hm := mul_s y (t : Nat) (by omega) μ'
      refine ⟨_, [some (.int (t : Nat)), some (.int (k : Nat)), some (.int (y * t)), some x], _, tgt_nm _ _ _ _, by simp [-KP.mul_int, hm], ⟨_, _, ?_, rfl⟩, rfl⟩
      rw [hy]
      unfold tmI
      rw [List.range_succ, List.foldl_append]
      rfl)
  rw [rngD_len, Int.toNat_natCast, Nat.zero_add] at hy
  rw [← hy]
  have it := itD_rng (n := k) (μ := μ1) (by omega)
  simp [d_law_times, startR, it, e1]
def chI (m : Int) (s : Nat) : Int := (List.range s).foldl (fun (f : Int) (k : Nat) => f * (m - k) / (k + 1)) 1
def chK (m : Int) (s : Nat) : Int := if (s : Int) ≤ m then chI m s else 0
theorem law_choose (hN : 1 ≤ N) {m : Int} {s : Nat} (hm : -100 ≤ m ∧ m ≤ 100) (hs : s ≤ 100) (μ : Mu) : callF T N 25 [.int m, .int (s : Nat)] μ = .ok (.int (chK m s)) μ := by
  obtain ⟨n, rfl⟩ : ∃ n, N = n + 1 := ⟨N - 1, by omega⟩
  rw [callF_run (show T.fn 25 = some d_law_choose from rfl) rfl]
  obtain ⟨ρ1, μ1, e1, ⟨z, y, hy, rfl⟩, rfl⟩ := forL_inv (st := still [.int (s : Nat)] μ) (g := .nm 3) (b := bodyL (lev T n) [.set 2 (.op .fdiv [.op .toi [.op .mul [.v 2, .op .sub [.v 0, .v 3]]], .op .add [.v 3, .c (.int 1)]])])
    (fun j ρ μ' => (∃ z y, y = chI m j ∧ ρ = [some (.int m), some (.int (s : Nat)), some (.int y), z]) ∧ μ' = μ) (fun _ _ _ _ => still_plain (by simp) _ _) (rngD 0 s) 0 [some (.int m), some (.int (s : Nat)), some (.int 1), none] _ ⟨⟨none, _, rfl, rfl⟩, rfl⟩ (by
      rintro j ρ μ' x ⟨⟨z, y, hy, rfl⟩, rfl⟩ hx
      rw [Nat.zero_add] at *
      obtain ⟨rfl, hj⟩ := rngD_get hx
      rw [Int.zero_add] at *
      have hm := mul_s y (m - (j : Nat)) (by omega) μ'
      have q1 : (0 : Int) < (j : Int) + 1 := by omega
      have q2 : (j : Int) + 1 < 1073741824 := by omega
      refine ⟨_, [some (.int m), some (.int (s : Nat)), some (.int (y * (m - (j : Nat)) / ((j : Nat) + 1))), some (.int (j : Nat))], _, tgt_nm _ _ _ _, by simp [-KP.mul_int, hm, q1, q2], ⟨_, _, ?_, rfl⟩, rfl⟩
      rw [hy]
      unfold chI
      rw [List.range_succ, List.foldl_append]
      rfl)
  rw [rngD_len, Int.toNat_natCast, Nat.zero_add] at hy
  have it := itD_rng (n := s) (μ := μ1) (by omega)
  unfold chK
  rw [← hy]
  have s0 : (0 : Int) ≤ s := by omega
  by_cases q : (s : Int) ≤ m <;> simp [d_law_choose, startR, it, e1, q, s0, iteB_t, iteB_f]
def alI (t : Int) (b : Nat) : Int := (List.range b).foldl (fun (f : Int) (k : Nat) => f * max 0 (t - k)) 1
theorem al_loop {n : Nat} (b5 : b ≤ 5) (t5 : t ≤ 5) (m r : D) (μ : Mu) : ∃ z, forL (still [.int (b : Nat)] μ) (.nm 3) (bodyL (lev T n) [.set 6 (.op .mul [.v 6, .op .max2 [.c (.int 0), .op .sub [.v 2, .v 3]]])]) (rngD 0 b) [some m, some (.int (b : Nat)), some (.int (t : Nat)), none, none, some r, some (.int 1)] μ = .ok (.nx [some m, some (.int (b : Nat)), some (.int (t : Nat)), z, none, some r, some (.int (alI t b))]) μ := by
  obtain ⟨ρ1, μ1, e1, ⟨z, y, hy, rfl⟩, rfl⟩ := forL_inv (st := still [.int (b : Nat)] μ) (g := .nm 3) (b := bodyL (lev T n) [.set 6 (.op .mul [.v 6, .op .max2 [.c (.int 0), .op .sub [.v 2, .v 3]]])])
    (fun j ρ μ' => (∃ z y, y = alI t j ∧ ρ = [some m, some (.int (b : Nat)), some (.int (t : Nat)), z, none, some r, some (.int y)]) ∧ μ' = μ) (fun _ _ _ _ => still_plain (by simp) _ _) (rngD 0 b) 0 [some m, some (.int (b : Nat)), some (.int (t : Nat)), none, none, some r, some (.int 1)] _ ⟨⟨none, _, rfl, rfl⟩, rfl⟩ (by
      rintro j ρ μ' x ⟨⟨z, y, hy, rfl⟩, rfl⟩ hx
      rw [Nat.zero_add] at *
      obtain ⟨rfl, hj⟩ := rngD_get hx
      rw [Int.zero_add] at *
      have hm := mul_s y (max 0 ((t : Int) - (j : Int))) (by omega) μ'
      have mx := op_max (cx := lev T n) 0 ((t : Int) - (j : Int)) μ'
      refine ⟨_, [some m, some (.int (b : Nat)), some (.int (t : Nat)), some (.int (j : Nat)), none, some r, some (.int (y * max 0 ((t : Int) - (j : Int))))], _, tgt_nm _ _ _ _, ?_, ⟨_, _, ?_, rfl⟩, rfl⟩
      · generalize max 0 ((t : Int) - (j : Int)) = w at *
        simp [-KP.mul_int, hm, mx]
      rw [hy]
      unfold alI
      rw [List.range_succ, List.foldl_append]
      rfl)
  rw [rngD_len, Int.toNat_natCast, Nat.zero_add] at hy
  rw [hy] at e1
  exact ⟨_, e1⟩
abbrev kk : List Key := [.inr "blind", .inr "one", .inr "two"]
def kD : D := .dct kk [.int 0, .int 1, .int 2]
theorem mk_kD (μ : Mu) : mkDct kk [.int 0, .int 1, .int 2] μ = .ok kD μ := by
  show (if anyCell [D.int 0, .int 1, .int 2] then R.stuck else if kk.Nodup ∧ kk.length = [D.int 0, D.int 1, D.int 2].length then R.ok kD μ else .stuck) = _
  rw [if_neg (by decide), if_pos (by decide +kernel)]
theorem inn_kD {i : Nat} (hi : i < 9) (μ : Mu) : innD (mD i) kD μ = .ok (decide (i = 0 ∨ i = 5 ∨ i = 6)) μ := by
  have h : ∀ i < 9, hasK kk (.inr (mn i)) = decide (i = 0 ∨ i = 5 ∨ i = 6) := by decide +kernel
  show R.ok (hasK kk (.inr (mn i))) μ = _
  rw [h i hi]
theorem idx_kD {i : Nat} (h : i = 0 ∨ i = 5 ∨ i = 6) (μ : Mu) : idxD kD (mD i) μ = .ok (.int (kn i : Nat)) μ := by
  rcases h with rfl | rfl | rfl <;> rfl
def manyI (i t b : Nat) : Int := match i with
  | 0 => tmI t b
  | 5 => tmI t (b - 1)
  | 6 => tmI t (b - 2)
  | 1 => chK (b + t - 1) b
  | 2 => 2 * chK (b + t - 1) b - t
  | 3 => chK (b + t - 2) (b - 1)
  | 4 => if 1 < b then chK (b + t - 3) (b - 2) else if t = 1 then 1 else 0
  | 7 => alI t b
  | _ => chK t b
theorem law_many (hN : 2 ≤ N) (A : Ask i t b) (μ : Mu) : callF T N 27 [mD i, .int (b : Nat), .int (t : Nat)] μ = .ok (.int (manyI i t b)) μ := by
  obtain ⟨n, rfl⟩ : ∃ n, N = n + 1 := ⟨N - 1, by omega⟩
  have two := A.two
  obtain ⟨hi, b1, b5, t1, t5, may⟩ := A
  rw [callF_run F27 rfl]
  have r := law_choose (show 1 ≤ n by omega) (m := (b : Int) + t - 1) (s := b) (by omega) (by omega) μ
  obtain ⟨z, e⟩ := al_loop (n := n) b5 t5 (mD i) (.int (chK (b + t - 1) b)) μ
  have it := itD_rng (n := b) (μ := μ) (by omega)
  have m := mk_kD μ
  have inn := inn_kD hi μ
  have t5' := fun k (hk : k ≤ 1000) => law_times (show 1 ≤ n by omega) (k := k) (t := t) hk t5 μ
  match i, hi with
  | 0, hi =>
    have q := t5' b (by omega)
    have ix := idx_kD (.inl rfl) μ
    simp [m_law_many, startR, r, e, it, m, inn, ix, kn, q, iteB_t, manyI]
  | 5, hi =>
    have q := t5' (b - 1) (by omega)
    have ix := idx_kD (.inr (.inl rfl)) μ
    have eb : ((b - 1 : Nat) : Int) = (b : Int) - 1 := by omega
    rw [eb] at q
    simp [m_law_many, startR, r, e, it, m, inn, ix, kn, q, iteB_t, manyI]
  | 6, hi =>
    have tw := (two rfl).1
    have q := t5' (b - 2) (by omega)
    have ix := idx_kD (.inr (.inr rfl)) μ
    have eb : ((b - 2 : Nat) : Int) = (b : Int) - 2 := by omega
    rw [eb] at q
    simp [m_law_many, startR, r, e, it, m, inn, ix, kn, q, iteB_t, manyI]
  | 1, hi => simp [m_law_many, startR, mkTup, anyCell, r, e, it, m, inn, inn2, eqM, iteB_t, iteB_f, manyI]
  | 2, hi =>
    have hm : mulD (.int 2) (.int (chK (b + t - 1) b)) μ = .ok (.int (2 * chK (b + t - 1) b)) μ := by rw [KP.mul_int, if_pos (.inl ⟨by omega, by omega⟩)]
    simp [-KP.mul_int, m_law_many, startR, mkTup, anyCell, r, e, it, m, inn, inn2, eqM, iteB_t, iteB_f, manyI, hm]
  | 3, hi =>
    have q := law_choose (show 1 ≤ n by omega) (m := (b : Int) + t - 2) (s := b - 1) (by omega) (by omega) μ
    have eb : ((b - 1 : Nat) : Int) = (b : Int) - 1 := by omega
    rw [eb] at q
    simp [m_law_many, startR, mkTup, anyCell, r, e, it, m, inn, inn2, eqM, iteB_t, iteB_f, manyI, q]
  | 4, hi =>
    by_cases g : 1 < b
    · have q := law_choose (show 1 ≤ n by omega) (m := (b : Int) + t - 3) (s := b - 2) (by omega) (by omega) μ
      have eb : ((b - 2 : Nat) : Int) = (b : Int) - 2 := by omega
      have g1 : (1 : Int) < b := by omega
      rw [eb] at q
      simp [m_law_many, startR, mkTup, anyCell, r, e, it, m, inn, inn2, eqM, iteB_t, iteB_f, manyI, q, g, g1]
    · have g1 : ¬ (1 : Int) < b := by omega
      have g2 : (t : Int) = 1 ↔ t = 1 := by omega
      by_cases h : t = 1
      · have h1 : (t : Int) = 1 ↔ True := ⟨fun _ => trivial, fun _ => by omega⟩
        simp only [manyI, if_neg g, if_pos h]
        simp [m_law_many, startR, mkTup, anyCell, r, e, it, m, inn, inn2, eqM, iteB_t, iteB_f, g1, h1]
      · have h1 : ¬ (t : Int) = 1 := by omega
        simp only [manyI, if_neg g, if_neg h]
        simp [m_law_many, startR, mkTup, anyCell, r, e, it, m, inn, inn2, eqM, iteB_t, iteB_f, g, g1, h1]
  | 7, hi => simp [m_law_many, startR, mkTup, anyCell, r, e, it, m, inn, inn2, eqM, iteB_t, iteB_f, manyI]
  | 8, hi =>
    have q := law_choose (show 1 ≤ n by omega) (m := (t : Int)) (s := b) (by omega) (by omega) μ
    simp [m_law_many, startR, mkTup, anyCell, r, e, it, m, inn, inn2, eqM, iteB_t, iteB_f, manyI, q]
def countB (t b : Nat) : Bool := (List.range 9).all fun i => !mayI i (min (b : Int) t) || decide (((rowsR i t b).length : Int) = manyI i t b)
theorem count_all : ∀ b ∈ [1, 2, 3, 4, 5], ∀ t ∈ [1, 2, 3, 4, 5], countB t b = true := by decide +kernel
theorem counted (A : Ask i t b) : ((rowsR i t b).length : Int) = manyI i t b := by
  have hb := A.b1; have hb5 := A.b5; have ht := A.t1; have ht5 := A.t5
  have q := count_all b (by simp; omega) t (by simp; omega)
  unfold countB at q
  have w := List.all_eq_true.mp q i (List.mem_range.mpr A.hi)
  rw [A.may] at w
  exact of_decide_eq_true (by simpa using w)
end
end K05
end

section
set_option maxRecDepth 100000
set_option maxHeartbeats 4000000
namespace K05
open PySem PySem.Spec PyProof.Rows L2 KP
def reprOk (n : Nat) : Bool := match reprD (.int (n : Nat)) with
  | some s => PyData.strOk s
  | none => false
theorem repr_all : ∀ n < 3126, reprOk n = true := by decide +kernel
theorem repr_nat {n : Nat} (h : n < 3126) : ∃ s, reprD (.int (n : Nat)) = some s ∧ PyData.strOk s = true := by
  have := repr_all n h
  unfold reprOk at this
  cases e : reprD (.int (n : Nat)) with
  | some s => rw [e] at this; exact ⟨s, rfl, this⟩
  | none => rw [e] at this; cases this
section
variable {N i b t : Nat}
theorem blkL_rows : ∀ ys : List (List Int), (∀ r ∈ ys, r.length ≤ 5) → blkL (ys.map rowD) ≤ 6 * ys.length
  | [], _ => Nat.le_refl _
  | r :: s, h => by
    have h1 := h r (by simp)
    have h2 := blkL_rows s fun x hx => h x (List.mem_cons_of_mem _ hx)
    show blk (rowD r) + 1 + blkL (s.map rowD) ≤ _
    rw [show blk (rowD r) = r.length from blkL_ints r, List.length_cons]
    omega
theorem plLD_rows : ∀ ys : List (List Int), (∀ r ∈ ys, ∀ x ∈ r, x.natAbs < 1000) → plLD (ys.map rowD) = true
  | [], _ => rfl
  | r :: s, h => by
    show (plLD (r.map .int) && plLD (s.map rowD)) = true
    rw [plLD_ints (h r (by simp)), plLD_rows s fun x hx => h x (List.mem_cons_of_mem _ hx)]
    rfl
theorem repr_rows {ys : List (List Int)} (h : ∀ r ∈ ys, Rw t b r) (b5 : b ≤ 5) (t5 : t ≤ 5) (hl : ys.length ≤ 3125) : ∃ s, reprD (.lst (ys.map rowD)) = some s ∧ PyData.strOk s = true := by
  refine ⟨_, repr_pl ?_ ?_ ?_⟩
  · exact datL_rows ys 58
  · exact plLD_rows ys fun r hr x hx => by have := (h r hr).2 x hx; omega
  · have := blkL_rows ys fun r hr => by have := (h r hr).1; omega
    show blkL (ys.map rowD) ≤ _
    omega
theorem eqS {cx : Cxt} {s : Str} {μ : Mu} (h : PyData.strOk s = true) : eqD cx (.str s) (.str s) μ = .ok true μ := by
  rw [KP.eqD_str h h]
  simp
theorem due_eq (A : Ask i t b) : (rowsI t b).filter (fun r => lwI i r t) = rowsR i t b := by
  unfold rowsR
  exact List.filter_congr fun r hr => agree A (mem_rows.mp hr)
theorem listed_right (hN : 8 ≤ N) (A : Ask i t b) (μ : Mu) : callF T N 28 [mD i, .int (b : Nat), .int (t : Nat)] μ = .ok (.bl true) μ := by
  obtain ⟨n, rfl⟩ : ∃ n, N = n + 1 := ⟨N - 1, by omega⟩
  rw [callF_run (show T.fn 28 = some d_law_listed_right from rfl) rfl]
  have ld := leads (show 7 ≤ n by omega) A μ
  have lr := law_rows (show 1 ≤ n by omega) A.b1 A.b5 A.t1 A.t5 μ
  have ml := many_leads (show 5 ≤ n by omega) A μ
  have lm := law_many (show 2 ≤ n by omega) A μ
  rw [← counted A] at lm
  have rl := rowsR_len A
  have cd := fun (told : D) => comp_sel (st := still [.lst (rowsD t b)] μ) (g := turnC (lev T n) [6] (.v 6) (.nm 6) [.call 23 [.v 0, .v 6, .v 2] [0, 1, 2]] [some (mD i), some (.int (b : Nat)), some (.int (t : Nat)), some told, none, none, none, none]) (μ := μ) rowD rowD (fun r => lwI i r t) (still_plain (by simp) _ _) (rowsI t b) (fun r hr => by
    have m := mem_rows.mp hr
    have hl := Rw.ge A m
    have e := law_is (show 1 ≤ n by omega) A.hi (xs := r) hl.1 (by omega) (fun h => by have := (A.two h).1; have := m.1; omega) t μ
    exact turnS (k := lwI i r t) (y := rowD r) (by
      unfold rowD
      simp [e]) (fun _ => rfl)) (fun r _ => rfl)
  rw [due_eq A] at cd
  have c1 := fun (told due : D) => comp_of (st := still [.tup ((rowsR i t b).map (leadD t))] μ) (g := turnC (lev T n) [7] (.fld (.v 7) 6) (.nm 7) [] [some (mD i), some (.int (b : Nat)), some (.int (t : Nat)), some told, some due, none, none, none]) (μ := μ) (leadD t) rowD (still_plain (by simp) _ _) (rowsR i t b) (fun r hr => turn0 (by
    have := f6 n t r μ
    unfold rowD
    generalize leadD t r = l at *
    simp [this])) (fun r _ => rfl)
  have c2 := fun (told due : D) => comp_sel (st := still [.tup ((rowsR i t b).map (leadD t))] μ) (g := turnC (lev T n) [7] (.v 7) (.nm 7) [.op .ne [.tup [.fld (.v 7) 4, .fld (.v 7) 5], .tup [.v 1, .v 2]]] [some (mD i), some (.int (b : Nat)), some (.int (t : Nat)), some told, some due, none, none, none]) (μ := μ) (leadD t) (leadD t) (fun _ => false) (still_plain (by simp) _ _) (rowsR i t b) (fun r hr => by
    have g4 := f4 n t r μ
    have g5 := f5 n t r μ
    rw [(mem_rowsR.mp hr).1.1] at g4
    have ee : eqD (lev T n) (.tup [.int (b : Nat), .int (t : Nat)]) (.tup [.int (b : Nat), .int (t : Nat)]) μ = .ok true μ := by
      have := KP.eqD_tupI (cx := lev T n) (μ := μ) [(b : Int), (t : Int)] [(b : Int), (t : Int)]
      simpa using this
    generalize leadD t r = l at *
    exact turnS (k := false) (y := l) (by simp [g4, g5, mkTup, anyCell, ee]) (fun h => by cases h)) (fun r _ => rfl)
  have fz : (rowsR i t b).filter (fun _ => false) = [] := List.filter_eq_nil_iff.mpr (by simp)
  rw [fz] at c2
  simp only [List.map_nil] at c2
  obtain ⟨s, e1, e2⟩ := repr_rows (ys := rowsR i t b) (fun r hr => (mem_rowsR.mp hr).1) A.b5 A.t5 rl
  obtain ⟨z, e3, e4⟩ := repr_nat (n := (rowsR i t b).length) (by omega)
  have q1 := eqS (cx := lev T n) (μ := μ) e2
  have q2 := eqS (cx := lev T n) (μ := μ) e4
  have l1 : (rowsD t b).length ≤ 16777216 := by
    unfold rowsD
    rw [List.length_map, rows_len]
    have := pow_le A.t5 A.b5
    omega
  have l2 : ((rowsR i t b).map (leadD t)).length ≤ 16777216 := by rw [List.length_map]; omega
  have l3 : ((rowsR i t b).map rowD).length = (rowsR i t b).length := List.length_map _
  have ez : eqD (lev T n) (.lst []) (.lst []) μ = .ok true μ := eq_nilD rfl μ
  have rd : rowsD t b = (rowsI t b).map rowD := rfl
  have ty : ∀ ds, tyAny (lev T n) μ (.tup ds) [.tuple] = some true := fun _ => rfl
  rw [← rd] at cd
  generalize (rowsR i t b).length = k at *
  generalize (rowsR i t b).map (leadD t) = lds at *
  generalize (rowsR i t b).map rowD = rws at *
  generalize rowsD t b = ars at *
  simp [d_law_listed_right, startR, mkLst, anyCell, ty, ld, lr, cd, c1, c2, e1, q1, ez, ml, l1, l2, l3, e3, q2, lm, iteB_t, iteB_f]
end
end K05
end

section
set_option maxRecDepth 100000
set_option maxHeartbeats 4000000
namespace K05
open PySem PySem.Spec PyProof.Rows L2 KP
def m_asked : Def := ⟨3, 8, false, [.set 3 (.op .totup [.cmp [7] (.call 21 [.v 0, .v 2] [0, 1]) (.nm 7) .rng1 [.v 1] []]), .set 3 (.call 22 [.v 0, .lst [.v 3, .op .totup [.op .srt [.v 3]], .op .rev [.op .totup [.op .srt [.v 3]]], .op .add [.tup [.c (.int 0)], .slL (.v 3) (.c (.int 1))], .ife (.op .gt [.v 1, .c (.int 1)]) (.op .add [.tup [.c (.int 0), .op .sub [.v 2, .c (.int 1)]], .slL (.v 3) (.c (.int 2))]) (.v 3)]] [0, 1]), .set 4 (.cmp [6] (.v 6) (.nm 6) .seq [.c mT] [.or (.op .ne [.v 6, .c (mD 6)]) (.op .gt [.op .min2 [.v 1, .v 2], .c (.int 1)])]), .set 5 (.cmp [6] (.call 17 [.v 6, .mk 8 [.v 2, .v 3] [0, 1]] [1, 0]) (.nm 6) .seq [.v 4] []), .ife (.op .ne [.op .repr [.v 5], .op .repr [.cmp [6] (.call 23 [.v 6, .v 3, .v 2] [0, 1, 2]) (.nm 6) .seq [.v 4] []]]) [.ret (.c (.bl false))] [], .ret (.op .eq [.cmp [6] (.v 6) (.nm 6) .seq [.c mT] [.and (.or (.op .ne [.v 6, .c (mD 6)]) (.op .gt [.v 1, .c (.int 1)])) (.op (.notT true) [.call 17 [.call 8 [.v 1] [0], .v 6] [0, 1]])], .lst []])]⟩
theorem F29 : T.fn 29 = some m_asked := rfl
section
variable {N i b t c n : Nat}
theorem itM (μ : Mu) : itD .seq [mT] μ = some ((List.range 9).map mD) := rfl
theorem op_isT {cx : Cxt} (k x : Bool) (μ : Mu) : opD cx (.isT k) [.bl x] μ = .ok (.bl (decide (x = k))) μ := rfl
theorem op_notT {cx : Cxt} (k x : Bool) (μ : Mu) : opD cx (.notT k) [.bl x] μ = .ok (.bl (!decide (x = k))) μ := rfl
theorem insS_len (x : Int) (l : List Int) : (insS x l).length = l.length + 1 := by
  induction l with
  | nil => rfl
  | cons y r ih =>
    unfold insS
    split
    · rfl
    · simp [ih]
theorem sortI_len : ∀ l : List Int, (sortI l).length = l.length
  | [] => rfl
  | x :: r => by
    show (insS x (sortI r)).length = _
    rw [insS_len, sortI_len r]
    rfl
theorem insS_mem {x y : Int} : ∀ {l : List Int}, y ∈ insS x l → y = x ∨ y ∈ l
  | [], h => by simp [insS] at h; exact .inl h
  | z :: r, h => by
    unfold insS at h
    split at h
    · exact List.mem_cons.mp h
    · rcases List.mem_cons.mp h with q | q
      · exact .inr (by rw [q]; simp)
      · rcases insS_mem q with w | w
        · exact .inl w
        · exact .inr (List.mem_cons_of_mem _ w)
theorem sortI_mem {y : Int} : ∀ {l : List Int}, y ∈ sortI l → y ∈ l
  | [], h => h
  | x :: r, h => by
    rcases insS_mem (show y ∈ insS x (sortI r) from h) with q | q
    · rw [q]; simp
    · exact List.mem_cons_of_mem _ (sortI_mem q)
theorem Rw.sort {r : List Int} (h : Rw t b r) : Rw t b (sortI r) := ⟨by rw [sortI_len]; exact h.1, fun x hx => h.2 x (sortI_mem hx)⟩
theorem Rw.rev {r : List Int} (h : Rw t b r) : Rw t b r.reverse := ⟨by rw [List.length_reverse]; exact h.1, fun x hx => h.2 x (List.mem_reverse.mp hx)⟩
theorem Rw.z1 {r : List Int} (h : Rw t b r) (b1 : 1 ≤ b) (t1 : 1 ≤ t) : Rw t b (0 :: r.drop 1) := by
  refine ⟨by have := h.1; simp; omega, fun x hx => ?_⟩
  rcases List.mem_cons.mp hx with q | q
  · rw [q]; omega
  · exact h.2 x (List.mem_of_mem_drop q)
theorem Rw.z2 {r : List Int} (h : Rw t b r) (b1 : 1 < b) (t1 : 1 ≤ t) : Rw t b (0 :: ((t : Int) - 1) :: r.drop 2) := by
  refine ⟨by have := h.1; simp; omega, fun x hx => ?_⟩
  rcases List.mem_cons.mp hx with q | q
  · rw [q]; omega
  · rcases List.mem_cons.mp q with q | q
    · rw [q]; omega
    · exact h.2 x (List.mem_of_mem_drop q)
/-- the rows that may be asked about -/
def five (t b : Nat) (r : List Int) : List (List Int) := [r, sortI r, (sortI r).reverse, 0 :: r.drop 1, if 1 < b then 0 :: ((t : Int) - 1) :: r.drop 2 else r]
theorem five_Rw (b1 : 1 ≤ b) (t1 : 1 ≤ t) {r : List Int} (h : Rw t b r) : ∀ s ∈ five t b r, Rw t b s := by
  intro s hs
  simp only [five, List.mem_cons, List.not_mem_nil, or_false] at hs
  rcases hs with rfl | rfl | rfl | rfl | rfl
  · exact h
  · exact Rw.sort h
  · exact Rw.rev (Rw.sort h)
  · exact Rw.z1 h b1 t1
  · split
    · exact Rw.z2 h (by assumption) t1
    · exact h
def mayL (b t : Nat) : List Nat := (List.range 9).filter fun i => mayI i (min (b : Int) t)
theorem mayL_ask (b1 : 1 ≤ b) (b5 : b ≤ 5) (t1 : 1 ≤ t) (t5 : t ≤ 5) {i : Nat} (h : i ∈ mayL b t) : Ask i t b := by
  unfold mayL at h
  obtain ⟨h1, h2⟩ := List.mem_filter.mp h
  exact ⟨List.mem_range.mp h1, b1, b5, t1, t5, h2⟩
theorem ne_two {cx : Cxt} {μ : Mu} (hi : i < 9) : eqD cx (mD i) (mD 6) μ = .ok (decide (i = 6)) μ := eqM hi (by omega)
/-- the rows drawn -/
theorem asked_row (hn : 1 ≤ n) {μ : Mu} (H : Hat c [] μ) (hc : c < 5000) (b1 : 1 ≤ b) (b5 : b ≤ 5) (t1 : 1 ≤ t) (t5 : t ≤ 5) : ∃ r μ', Rw t b r ∧ Hat (c + b) [] μ' ∧
    ex (lev T n) (.set 3 (.op .totup [.cmp [7] (.call 21 [.v 0, .v 2] [0, 1]) (.nm 7) .rng1 [.v 1] []])) [some (.cell 0), some (.int (b : Nat)), some (.int (t : Nat)), none, none, none, none, none] μ = .ok (.nx [some (.cell 0), some (.int (b : Nat)), some (.int (t : Nat)), some (rowD r), none, none, none, none]) μ' := by
  obtain ⟨ys, μ', e, hl, hp, H'⟩ := comp_ints (st := still [.int (b : Nat)] μ) (g := turnC (lev T n) [7] (.call 21 [.v 0, .v 2] [0, 1]) (.nm 7) [] [some (.cell 0), some (.int (b : Nat)), some (.int (t : Nat)), none, none, none, none, none]) (fun _ => still_plain (by simp) _ _) (tl := []) (fun y => 0 ≤ y ∧ y < (t : Nat)) 1 10000 (xs := rngD 0 b) (fun x hx d ν Hν hd => by
      obtain ⟨k, ν', e, k0, k1, H2⟩ := pullN P21 hn Hν (by omega) (m := (t : Nat)) (by omega)
      exact ⟨k, ν', turn0 (by simp [e]), ⟨k0, k1⟩, H2⟩) H (by rw [rngD_len, Int.toNat_natCast]; omega)
  rw [rngD_len, Int.toNat_natCast] at hl H'
  refine ⟨ys, μ', ⟨hl, hp⟩, by rw [Nat.one_mul] at H'; exact H', ?_⟩
  have it := itD_rng (n := b) (μ := μ) (by omega)
  unfold rowD
  generalize ys.map D.int = yd at *
  simp [it, e, show b ≤ 16777216 by omega]
theorem asked_pick (hn : 2 ≤ n) {μ : Mu} (H : Hat c [] μ) (hc : c < 5000) (b1 : 1 ≤ b) (b5 : b ≤ 5) (t1 : 1 ≤ t) (t5 : t ≤ 5) {r : List Int} (h : Rw t b r) : ∃ s μ', Rw t b s ∧ Hat (c + 1) [] μ' ∧
    ex (lev T n) (.set 3 (.call 22 [.v 0, .lst [.v 3, .op .totup [.op .srt [.v 3]], .op .rev [.op .totup [.op .srt [.v 3]]], .op .add [.tup [.c (.int 0)], .slL (.v 3) (.c (.int 1))], .ife (.op .gt [.v 1, .c (.int 1)]) (.op .add [.tup [.c (.int 0), .op .sub [.v 2, .c (.int 1)]], .slL (.v 3) (.c (.int 2))]) (.v 3)]] [0, 1])) [some (.cell 0), some (.int (b : Nat)), some (.int (t : Nat)), some (rowD r), none, none, none, none] μ = .ok (.nx [some (.cell 0), some (.int (b : Nat)), some (.int (t : Nat)), some (rowD s), none, none, none, none]) μ' := by
  obtain ⟨d, μ', e, hd, H'⟩ := oneN P21 F22 hn H (by omega) (xs := (five t b r).map rowD) (a := .lst ((five t b r).map rowD)) (.inl rfl) (by simp [five]) (by simp [five]) (fun d hd => by obtain ⟨s, _, rfl⟩ := List.mem_map.mp hd; rfl)
  obtain ⟨s, hs, rfl⟩ := List.mem_map.mp hd
  refine ⟨s, μ', five_Rw b1 t1 h s hs, H', ?_⟩
  have hr := h.1
  have so := op_srt (cx := lev T n) r μ
  have rv := op_revT (cx := lev T n) (sortI r) μ
  have s1 := slc1 (xs := r) (by omega) μ
  have s2 : 1 < b → slcD (.tup (r.map .int)) (some 2) none μ = .ok (.tup ((r.drop 2).map .int)) μ := fun hb => by
    show R.ok (D.tup (cut (r.map .int) (some 2) none)) μ = _
    rw [cut_drop (by omega) (by rw [List.length_map]; omega), List.map_drop]
    rfl
  have l1 : ((r.drop 1).map D.int).length ≤ 100 := by rw [List.length_map, List.length_drop]; omega
  have l2 : ((r.drop 2).map D.int).length ≤ 100 := by rw [List.length_map, List.length_drop]; omega
  have d1 : rowD (0 :: r.drop 1) = .tup (.int 0 :: (r.drop 1).map .int) := rfl
  have d2 : rowD (0 :: ((t : Int) - 1) :: r.drop 2) = .tup (.int 0 :: .int ((t : Int) - 1) :: (r.drop 2).map .int) := rfl
  have d0 : ∀ x, rowD x = .tup (x.map .int) := fun _ => rfl
  by_cases hb : 1 < b
  · have hb' : (1 : Int) < b := by omega
    have s2 := s2 hb
    simp only [five, if_pos hb, List.map_cons, List.map_nil, d1, d2] at e
    simp only [d0] at e ⊢
    generalize (r.drop 1).map D.int = r1 at *
    generalize (r.drop 2).map D.int = r2 at *
    generalize (sortI r).reverse.map D.int = rr at *
    generalize (sortI r).map D.int = rs at *
    generalize r.map D.int = rd at *
    generalize s.map D.int = sd at *
    simp [so, rv, s1, s2, mkTup, mkLst, anyCell, e, hb', iteB_t, show r1.length + 1 ≤ 16777216 by omega, show 1 + r1.length ≤ 16777216 by omega, show r2.length + 2 ≤ 16777216 by omega, show 2 + r2.length ≤ 16777216 by omega]
  · have hb' : ¬ (1 : Int) < b := by omega
    simp only [five, if_neg hb, List.map_cons, List.map_nil, d1] at e
    simp only [d0] at e ⊢
    generalize (r.drop 1).map D.int = r1 at *
    generalize (r.drop 2).map D.int = r2 at *
    generalize (sortI r).reverse.map D.int = rr at *
    generalize (sortI r).map D.int = rs at *
    generalize r.map D.int = rd at *
    generalize s.map D.int = sd at *
    simp [so, rv, s1, mkTup, mkLst, anyCell, e, hb', iteB_f, show r1.length + 1 ≤ 16777216 by omega, show 1 + r1.length ≤ 16777216 by omega]
end
end K05
end

section
set_option maxRecDepth 100000
set_option maxHeartbeats 4000000
namespace K05
open PySem PySem.Spec PyProof.Rows L2 KP
section
variable {N i b t c n : Nat}
/-- the manners that may be asked over so many things -/
theorem turn_may {j : Nat} {p q : E} {ρ : Rho} {k : Int} {μ : Mu} {i : Nat} (hi : i < 9) (hp : ∀ ρ' : Rho, ρ' = (wipeR ρ [j]).set j (some (mD i)) → ev (lev T n) (.v j) ρ' μ = .ok (mD i) μ) (hq : ∀ ρ' : Rho, ρ' = (wipeR ρ [j]).set j (some (mD i)) → evb (lev T n) q ρ' μ = .ok (decide (1 < k)) μ) : turnC (lev T n) [j] (.v j) (.nm j) [.or (.op .ne [.v j, .c (mD 6)]) q] ρ (mD i) μ = .ok (if mayI i k = true then some (mD i) else none) μ := by
  refine turnS (k := mayI i k) ?_ (fun _ => hp _ rfl)
  have v := hp _ rfl
  have w := hq _ rfl
  generalize (wipeR ρ [j]).set j (some (mD i)) = ρ' at *
  have en := eqM (cx := lev T n) (μ := μ) hi (show 6 < 9 by omega)
  rw [z_v] at v
  unfold mayI
  by_cases h : i = 6
  · subst h
    simp [v, en, w, iteB_f]
  · simp [v, en, w, h, iteB_t]
theorem isTrue_idle : ∀ i < 9, ∀ b ∈ [1, 2, 3, 4, 5], (i ≠ 6 ∨ 1 < b) → isR i (idl b) b = true := by decide +kernel
theorem repr_bls (xs : List Nat) (f : Nat → Bool) (h : xs.length ≤ 1000) : ∃ s, reprD (.lst (xs.map fun i => D.bl (f i))) = some s ∧ PyData.strOk s = true := by
  refine ⟨_, repr_pl ?_ ?_ ?_⟩
  · show datL _ 59 = true
    clear h
    induction xs with
    | nil => rfl
    | cons x r ih => rw [List.map_cons]; unfold datL; rw [ih]; rfl
  · show plLD _ = true
    clear h
    induction xs with
    | nil => rfl
    | cons x r ih => rw [List.map_cons]; unfold plLD; rw [ih]; rfl
  · have : blkL (xs.map fun i => D.bl (f i)) = xs.length := by
      clear h
      induction xs with
      | nil => rfl
      | cons x r ih => rw [List.map_cons]; unfold blkL; rw [ih]; show 0 + 1 + _ = _; rw [List.length_cons]; omega
    show blkL _ ≤ _
    omega
theorem asked_rest (hn : 8 ≤ n) (b1 : 1 ≤ b) (b5 : b ≤ 5) (t1 : 1 ≤ t) (t5 : t ≤ 5) {s : List Int} (h : Rw t b s) (μ : Mu) : exs (lev T n) (m_asked.body.drop 2) [some (.cell 0), some (.int (b : Nat)), some (.int (t : Nat)), some (rowD s), none, none, none, none] μ = .ok (.ret (.bl true)) μ := by
  have hs := h.1
  have mi := op_min (cx := lev T n) (b : Nat) (t : Nat) μ
  have c1 := comp_sel (st := still [mT] μ) (g := turnC (lev T n) [6] (.v 6) (.nm 6) [.or (.op .ne [.v 6, .c (mD 6)]) (.op .gt [.op .min2 [.v 1, .v 2], .c (.int 1)])] [some (.cell 0), some (.int (b : Nat)), some (.int (t : Nat)), some (rowD s), none, none, none, none]) (μ := μ) mD mD (fun i => mayI i (min (b : Int) t)) (still_plain (by intro d hd; rw [List.mem_singleton.mp hd]; rfl) _ _) (List.range 9) (fun i hi => turn_may (List.mem_range.mp hi) (p := .v 6) (fun ρ' e => by rw [e]; rfl) (fun ρ' e => by
    rw [e]
    generalize rowD s = sd at *
    simp [mi])) (fun _ _ => rfl)
  have c2 := fun (v4 : D) => comp_of (st := still [.lst ((mayL b t).map mD)] μ) (g := turnC (lev T n) [6] (.call 17 [.v 6, .mk 8 [.v 2, .v 3] [0, 1]] [1, 0]) (.nm 6) [] [some (.cell 0), some (.int (b : Nat)), some (.int (t : Nat)), some (rowD s), some v4, none, none, none]) (μ := μ) mD (fun i => .bl (isR i s t)) (still_plain (by simp) _ _) (mayL b t) (fun i hi => turn0 (by
    have A := mayL_ask b1 b5 t1 t5 hi
    have k := mk_lead (show 6 ≤ n by omega) (a := rowD s) (xs := s) (t := (t : Nat)) (μ := μ) (.inr (.inl rfl)) (by omega) (by omega) h.2 (by omega) (by omega)
    have e := is_of (show 3 ≤ n by omega) A h μ
    generalize leadD t s = l at *
    generalize rowD s = sd at *
    simp [k, e])) (fun _ _ => rfl)
  have c3 := fun (v4 v5 : D) => comp_of (st := still [.lst ((mayL b t).map mD)] μ) (g := turnC (lev T n) [6] (.call 23 [.v 6, .v 3, .v 2] [0, 1, 2]) (.nm 6) [] [some (.cell 0), some (.int (b : Nat)), some (.int (t : Nat)), some (rowD s), some v4, some v5, none, none]) (μ := μ) mD (fun i => .bl (lwI i s t)) (still_plain (by simp) _ _) (mayL b t) (fun i hi => turn0 (by
    have A := mayL_ask b1 b5 t1 t5 hi
    have e := law_is (show 1 ≤ n by omega) A.hi (xs := s) (by omega) (by omega) (fun q => by have := (A.two q).1; omega) t μ
    unfold rowD
    generalize s.map D.int = sd at *
    simp [e])) (fun _ _ => rfl)
  have same : ((mayL b t).map fun i => D.bl (lwI i s t)) = (mayL b t).map fun i => D.bl (isR i s t) := List.map_congr_left fun i hi => by rw [agree (mayL_ask b1 b5 t1 t5 hi) h]
  rw [same] at c3
  have c4 := fun (v4 v5 : D) => comp_sel (st := still [mT] μ) (g := turnC (lev T n) [6] (.v 6) (.nm 6) [.and (.or (.op .ne [.v 6, .c (mD 6)]) (.op .gt [.v 1, .c (.int 1)])) (.op (.notT true) [.call 17 [.call 8 [.v 1] [0], .v 6] [0, 1]])] [some (.cell 0), some (.int (b : Nat)), some (.int (t : Nat)), some (rowD s), some v4, some v5, none, none]) (μ := μ) mD mD (fun i => false) (still_plain (by intro d hd; rw [List.mem_singleton.mp hd]; rfl) _ _) (List.range 9) (fun i hi => by
    have hi9 := List.mem_range.mp hi
    have en := eqM (cx := lev T n) (μ := μ) hi9 (show 6 < 9 by omega)
    have id := idle (show 7 ≤ n by omega) b1 b5 μ
    refine turnS (k := false) (y := mD i) ?_ (fun _ => rfl)
    have key : (i ≠ 6 ∨ 1 < b) → callF T n 17 [leadD b (idl b), mD i] μ = .ok (.bl true) μ := fun q => by
      have A : Ask i b b := ⟨hi9, b1, b5, b1, b5, by
        unfold mayI
        by_cases w : i = 6
        · have : 1 < b := by rcases q with q | q; exact absurd w q; exact q
          simp; omega
        · simp [w]⟩
      have e := is_of (show 3 ≤ n by omega) A (idl_Rw b) μ
      rw [isTrue_idle i hi9 b (by simp; omega) q] at e
      exact e
    have nt := fun x => op_notT (cx := lev T n) true x μ
    generalize leadD b (idl b) = l at *
    generalize rowD s = sd at *
    by_cases w : i = 6
    · subst w
      by_cases w2 : 1 < b
      · have w3 : (1 : Int) < b := by omega
        have k2 := key (.inr w2)
        simp [en, w3, iteB_t, iteB_f, id, k2, nt]
      · have w3 : ¬ (1 : Int) < b := by omega
        simp [en, w3, iteB_t, iteB_f]
    · simp [en, w, iteB_t, iteB_f, id, key (.inl w), nt]) (fun _ _ => rfl)
  have fz : (List.range 9).filter (fun _ => false) = [] := rfl
  rw [fz] at c4
  simp only [List.map_nil] at c4
  obtain ⟨z, e1, e2⟩ := repr_bls (mayL b t) (fun i => isR i s t) (by
    unfold mayL
    have := List.length_filter_le (fun i => mayI i (min (b : Int) t)) (List.range 9)
    rw [List.length_range] at this
    omega)
  have q1 := eqS (cx := lev T n) (μ := μ) e2
  have it := itM μ
  have l9 : ((List.range 9).map mD).length ≤ 16777216 := by decide
  have lm : ((mayL b t).map mD).length ≤ 16777216 := by
    rw [List.length_map]
    unfold mayL
    have := List.length_filter_le (fun i => mayI i (min (b : Int) t)) (List.range 9)
    rw [List.length_range] at this
    omega
  have ez : eqD (lev T n) (.lst []) (.lst []) μ = .ok true μ := eq_nilD rfl μ
  have c1' : compL (still [mT] μ) (turnC (lev T n) [6] (.v 6) (.nm 6) [.or (.op .ne [.v 6, .c (mD 6)]) (.op .gt [.op .min2 [.v 1, .v 2], .c (.int 1)])] [some (.cell 0), some (.int (b : Nat)), some (.int (t : Nat)), some (rowD s), none, none, none, none]) ((List.range 9).map mD) [] μ = .ok ((mayL b t).map mD) μ := c1
  clear c1
  generalize (mayL b t).map (fun i => D.bl (isR i s t)) = bs at *
  generalize (mayL b t).map mD = ms at *
  generalize (List.range 9).map mD = nine at *
  generalize rowD s = sd at *
  simp [m_asked, mkLst, anyCell, it, l9, lm, c1', c2, c3, c4, e1, q1, ez, iteB_t, iteB_f]
theorem asked_right (hN : 9 ≤ N) {μ : Mu} (H : Hat c [] μ) (hc : c < 4000) (b1 : 1 ≤ b) (b5 : b ≤ 5) (t1 : 1 ≤ t) (t5 : t ≤ 5) : ∃ μ', callF T N 29 [.cell 0, .int (b : Nat), .int (t : Nat)] μ = .ok (.bl true) μ' ∧ Hat (c + 6) [] μ' := by
  obtain ⟨n, rfl⟩ : ∃ n, N = n + 1 := ⟨N - 1, by omega⟩
  obtain ⟨r, μ1, hr, H1, x0⟩ := asked_row (n := n) (by omega) H (by omega) b1 b5 t1 t5
  obtain ⟨s, μ2, hs, H2, x1⟩ := asked_pick (n := n) (by omega) H1 (by omega) b1 b5 t1 t5 hr
  refine ⟨μ2, ?_, H2.mono (by omega)⟩
  rw [callF_run F29 rfl]
  show KP.finish m_asked μ.length (exs _ (m_asked.body.drop 0) [some (.cell 0), some (.int (b : Nat)), some (.int (t : Nat)), none, none, none, none, none] μ) = _
  rw [step_nx (by decide) x0, step_nx (by decide) x1, asked_rest (by omega) b1 b5 t1 t5 hs, KP.fin_bl, H.len, ← H2.len, List.take_length]
end
end K05
end

section
set_option maxRecDepth 100000
set_option maxHeartbeats 4000000
namespace K05
open PySem PySem.Spec PyProof.Rows L2 KP
def m_behind : Def := ⟨3, 6, false, [.par [4, 5] [.call 18 [.v 1, .op .idx [.v 2, .c (.int 0)], .op .idx [.v 2, .c (.int 1)]] [0, 1, 2], .call 18 [.v 1, .op .idx [.v 2, .c (.int 1)], .op .idx [.v 2, .c (.int 2)]] [0, 1, 2]], .ife (.or (.op .eq [.v 4, .tup []]) (.op .eq [.v 5, .tup []])) [.ret (.op .inn [.v 1, .tup [.c (mD 4), .c (mD 7), .c (mD 8)]])] [], .set 3 (.mth 7 (.call 22 [.v 0, .v 4] [0, 1]) [.call 22 [.v 0, .v 5] [0, 1]] [0, 1]), .ret (.and (.op (.isT true) [.call 17 [.v 3, .v 1] [0, 1]]) (.op .inO [.v 3, .call 18 [.v 1, .op .idx [.v 2, .c (.int 0)], .op .idx [.v 2, .c (.int 2)]] [0, 1, 2]]))]⟩
theorem F30 : T.fn 30 = some m_behind := rfl
section
variable {N i n k : Nat}
theorem ints_inj : ∀ {xs ys : List Int}, xs.map D.int = ys.map D.int → xs = ys
  | [], [], _ => rfl
  | [], _ :: _, h => by simp at h
  | _ :: _, [], h => by simp at h
  | x :: xs, y :: ys, h => by
    simp only [List.map_cons, List.cons.injEq, D.int.injEq] at h
    rw [h.1, ints_inj h.2]
theorem apart_lead (t : Int) {xs ys : List Int} (h : xs ≠ ys) : apart (leadD t xs) (leadD t ys) = true := by
  have f : ∀ zs : List Int, flatD (.tup (zs.map .int)) = true := fun zs => by
    show (intsOf (zs.map .int)).isSome = true
    rw [KP.ints_of]
    rfl
  unfold apart leadD
  dsimp only
  have ne : [D.int (xs.length : Nat), .int t, .tup (xs.map .int)] ≠ [D.int (ys.length : Nat), .int t, .tup (ys.map .int)] := fun e => by
    simp only [List.cons.injEq, D.tup.injEq] at e
    exact h (ints_inj e.2.2.1)
  rw [decide_eq_true ne]
  simp only [List.all_cons, List.all_nil, f, Bool.and_true]
  rfl
theorem in_leads (hn : 1 ≤ n) (t : Int) (q : List Int) (μ : Mu) : ∀ rows : List (List Int), inO (lev T n) (leadD t q) (rows.map (leadD t)) μ = .ok (.bl (decide (q ∈ rows))) μ
  | [] => rfl
  | x :: r => by
    have e := eqD_lead hn t t x q μ
    rw [List.map_cons]
    show (match eqD (lev T n) (leadD t x) (leadD t q) μ with
      | .ok k μ' => if μ' = μ then (match k with
        | true => R.ok (D.bl true) μ
        | false => if apart (leadD t x) (leadD t q) = true then inO (lev T n) (leadD t q) (r.map (leadD t)) μ else .stuck) else .stuck
      | _ => .stuck) = _
    rw [e]
    dsimp only
    rw [if_pos rfl]
    by_cases h : x = q
    · rw [decide_eq_true ⟨rfl, h⟩]
      simp [h]
    · rw [decide_eq_false (fun z => h z.2)]
      dsimp only
      rw [if_pos (apart_lead t h), in_leads hn t q μ r]
      have : q ≠ x := fun z => h z.symm
      simp [this]
theorem eq_tup0 (cx : Cxt) (t : Int) (rows : List (List Int)) (μ : Mu) : eqD cx (.tup (rows.map (leadD t))) (.tup []) μ = .ok rows.isEmpty μ := by
  cases rows with
  | nil => rfl
  | cons x r => rfl
def S23 : List Nat := [2, 3]
theorem S23_mem {a : Nat} : a ∈ S23 ↔ a = 2 ∨ a = 3 := by simp [S23]
theorem none_all : ∀ i < 9, ∀ a ∈ S23, ∀ b ∈ S23, (rowsR i b a).isEmpty = true → (i = 4 ∨ i = 7 ∨ i = 8) := by decide +kernel
theorem both_all : ∀ i < 9, ∀ a ∈ S23, ∀ b ∈ S23, ∀ c ∈ S23, ∀ r ∈ rowsR i b a, ∀ s ∈ rowsR i c b, isR i (ledR s r) c = true := by decide +kernel
theorem ask23 {a b : Nat} (hi : i < 9) (ha : a ∈ S23) (hb : b ∈ S23) : Ask i b a := by
  have ha := S23_mem.mp ha
  have hb := S23_mem.mp hb
  refine ⟨hi, by omega, by omega, by omega, by omega, ?_⟩
  unfold mayI
  have : (1 : Int) < min (a : Int) b := by omega
  rw [decide_eq_true this, Bool.or_true]
theorem behind (hN : 9 ≤ N) (hi : i < 9) {a b c : Nat} (ha : a ∈ S23) (hb : b ∈ S23) (hc : c ∈ S23) {μ : Mu} (H : Hat k [] μ) (hk : k < 5000) : ∃ μ', callF T N 30 [.cell 0, mD i, .lst [.int (a : Nat), .int (b : Nat), .int (c : Nat)]] μ = .ok (.bl true) μ' ∧ Hat (k + 2) [] μ' := by
  obtain ⟨n, rfl⟩ : ∃ n, N = n + 1 := ⟨N - 1, by omega⟩
  have l1 := leads (show 7 ≤ n by omega) (ask23 hi ha hb)
  have l2 := leads (show 7 ≤ n by omega) (ask23 hi hb hc)
  have l3 := leads (show 7 ≤ n by omega) (ask23 hi ha hc)
  have i0 : ∀ μ, idxD (.lst [.int (a : Nat), .int (b : Nat), .int (c : Nat)]) (.int 0) μ = .ok (.int (a : Nat)) μ := fun _ => rfl
  have i1 : ∀ μ, idxD (.lst [.int (a : Nat), .int (b : Nat), .int (c : Nat)]) (.int 1) μ = .ok (.int (b : Nat)) μ := fun _ => rfl
  have i2 : ∀ μ, idxD (.lst [.int (a : Nat), .int (b : Nat), .int (c : Nat)]) (.int 2) μ = .ok (.int (c : Nat)) μ := fun _ => rfl
  have q1 := eq_tup0 (lev T n) b (rowsR i b a) μ
  have q2 := eq_tup0 (lev T n) c (rowsR i c b) μ
  rw [callF_run F30 rfl]
  generalize hx : D.lst [.int (a : Nat), .int (b : Nat), .int (c : Nat)] = sz at *
  have iz := inn3 hi 4 7 8 (by omega) (by omega) (by omega) μ
  by_cases e1 : (rowsR i b a).isEmpty = true
  · have z := none_all i hi a ha b hb e1
    rw [e1] at q1
    rw [decide_eq_true z] at iz
    refine ⟨μ, ?_, H.mono (by omega)⟩
    generalize (rowsR i b a).map (leadD b) = d1 at *
    generalize (rowsR i c b).map (leadD c) = d2 at *
    simp [m_behind, startR, i0, i1, i2, l1, l2, mkTup, anyCell, q1, iz, iteB_t, iteB_f]
  · by_cases e2 : (rowsR i c b).isEmpty = true
    · have z := none_all i hi b hb c hc e2
      rw [e2] at q2
      rw [Bool.not_eq_true] at e1
      rw [e1] at q1
      rw [decide_eq_true z] at iz
      refine ⟨μ, ?_, H.mono (by omega)⟩
      generalize (rowsR i b a).map (leadD b) = d1 at *
      generalize (rowsR i c b).map (leadD c) = d2 at *
      simp [m_behind, startR, i0, i1, i2, l1, l2, mkTup, anyCell, q1, q2, iz, iteB_t, iteB_f]
    · have n1 : 0 < ((rowsR i b a).map (leadD b)).length := by
        rw [List.length_map]
        exact List.length_pos_iff.mpr fun w => e1 (by rw [w]; rfl)
      have n2 : 0 < ((rowsR i c b).map (leadD c)).length := by
        rw [List.length_map]
        exact List.length_pos_iff.mpr fun w => e2 (by rw [w]; rfl)
      have m1 := rowsR_len (ask23 hi ha hb)
      have m2 := rowsR_len (ask23 hi hb hc)
      obtain ⟨d1, μ1, p1, hd1, H1⟩ := oneN P21 F22 (show 2 ≤ n by omega) H (by omega) (xs := (rowsR i b a).map (leadD b)) (a := .tup ((rowsR i b a).map (leadD b))) (.inr rfl) n1 (by rw [List.length_map]; omega) (fun d hd => by obtain ⟨s, _, rfl⟩ := List.mem_map.mp hd; rfl)
      obtain ⟨d2, μ2, p2, hd2, H2⟩ := oneN P21 F22 (show 2 ≤ n by omega) H1 (by omega) (xs := (rowsR i c b).map (leadD c)) (a := .tup ((rowsR i c b).map (leadD c))) (.inr rfl) n2 (by rw [List.length_map]; omega) (fun d hd => by obtain ⟨s, _, rfl⟩ := List.mem_map.mp hd; rfl)
      obtain ⟨r, hr, rfl⟩ := List.mem_map.mp hd1
      obtain ⟨s, hs, rfl⟩ := List.mem_map.mp hd2
      have wr := (mem_rowsR.mp hr).1
      have ws := (mem_rowsR.mp hs).1
      have ha' := S23_mem.mp ha
      have hb' := S23_mem.mp hb
      have hc' := S23_mem.mp hc
      have th := then_ (show 7 ≤ n by omega) (t := b) (u := c) (b := a) (by omega) (by omega) (by omega) (by omega) wr ws μ2
      have wb := ledR_Rw ws wr
      have io := is_of (show 3 ≤ n by omega) (ask23 hi ha hc) wb μ2
      have bt := both_all i hi a ha b hb c hc r hr s hs
      rw [bt] at io
      have il := in_leads (show 1 ≤ n by omega) c (ledR s r) μ2 (rowsR i c a)
      rw [decide_eq_true (mem_rowsR.mpr ⟨wb, bt⟩)] at il
      have il' : opD (lev T n) .inO [leadD c (ledR s r), .tup ((rowsR i c a).map (leadD c))] μ2 = .ok (.bl true) μ2 := il
      have mt : metF (lev T n) 7 (leadD b r) μ1 = some 33 := met_lev (ns := [4, 5, 6]) rfl (by decide) (show T.cl 8 = some ⟨[8], some 32, _, 0, [4, 5, 6]⟩ from rfl) rfl
      have it := fun x => op_isT (cx := lev T n) true x μ2
      rw [Bool.not_eq_true] at e1 e2
      rw [e1] at q1
      rw [e2] at q2
      have k1 := l1 μ
      have k2 := l2 μ
      have k3 := l3 μ2
      refine ⟨μ2, ?_, H2⟩
      have lm : μ2.take μ.length = μ2 := by rw [H.len, ← H2.len, List.take_length]
      generalize (rowsR i b a).map (leadD b) = D1 at *
      generalize (rowsR i c b).map (leadD c) = D2 at *
      generalize (rowsR i c a).map (leadD c) = D3 at *
      generalize leadD c (ledR s r) = L3 at *
      generalize leadD b r = L1 at *
      generalize leadD c s = L2 at *
      simp [m_behind, startR, i0, i1, i2, k1, k2, k3, mkTup, anyCell, q1, q2, p1, p2, th, io, il', mt, it, lm, iteB_t, iteB_f]
end
end K05
end

section
set_option maxRecDepth 100000
set_option maxHeartbeats 4000000
namespace K05
open PySem PySem.Spec PyProof.Rows L2 KP
def m_law : Def := ⟨1, 10, false, [.set 1 (.call 20 [.v 0] [0]), .ife (.op .ne [.c mT, .tup [.c (mD 0), .c (mD 1), .c (mD 2), .c (mD 3), .c (mD 4), .c (mD 5), .c (mD 6), .c (mD 7), .c (mD 8)]]) [.ret (.c (.bl false))] [], .for (.nm 2) .rng1 [.c (.int 2)] [.unp [5, 6] (.tup [.op .add [.c (.int 1), .call 21 [.v 1, .c (.int 5)] [0, 1]], .op .add [.c (.int 1), .call 21 [.v 1, .c (.int 5)] [0, 1]]]), .set 3 (.cmp [7] (.v 7) (.nm 7) .seq [.c mT] [.or (.op .ne [.v 7, .c (mD 6)]) (.op .gt [.op .min2 [.v 5, .v 6], .c (.int 1)])]), .set 4 (.ife (.op .lt [.call 26 [.v 6, .v 5] [0, 1], .c (.int 257)]) (.v 3) (.lst [.call 22 [.v 1, .v 3] [0, 1]])), .ife (.or (.op .ne [.cmp [7] (.v 7) (.nm 7) .seq [.v 4] [.op .not [.call 28 [.v 7, .v 5, .v 6] [0, 1, 2]]], .lst []]) (.op .not [.call 29 [.v 1, .v 5, .v 6] [0, 1, 2]])) [.ret (.c (.bl false))] [], .par [7, 8] [.call 22 [.v 1, .c mT] [0, 1], .cmp [9] (.op .add [.c (.int 2), .call 21 [.v 1, .c (.int 2)] [0, 1]]) (.nm 9) .rng1 [.c (.int 3)] []], .ife (.or (.op .not [.call 29 [.v 1, .op .add [.c (.int 1), .call 21 [.v 1, .c (.int 5)] [0, 1]], .op .add [.c (.int 1), .call 21 [.v 1, .c (.int 5)] [0, 1]]] [0, 1, 2]]) (.op .not [.call 30 [.v 1, .v 7, .v 8] [0, 1, 2]])) [.ret (.c (.bl false))] []], .ret (.c (.bl true))]⟩
theorem F31 : T.fn 31 = some m_law := rfl
section
variable {N i n k b t : Nat} {μ : Mu}
abbrev EV (ns : List Int) (z2 z3 z4 z5 z6 z7 z8 z9 : Option D) : Rho := [some (.scr ns), some (.cell 0), z2, z3, z4, z5, z6, z7, z8, z9]
/-- a size drawn -/
theorem draw5 (hn : 1 ≤ n) (H : Hat k [] μ) (hk : k < 5000) : ∃ (x : Int) (b : Nat) (μ' : Mu), callF T n 21 [.cell 0, .int 5] μ = .ok (.int x) μ' ∧ 1 + x = (b : Int) ∧ 1 ≤ b ∧ b ≤ 5 ∧ Hat (k + 1) [] μ' := by
  obtain ⟨x, μ', e, h0, h1, H'⟩ := pullN P21 hn H (by omega) (m := 5) (by omega)
  exact ⟨x, (1 + x).toNat, μ', e, by omega, by omega, by omega, H'⟩
theorem draw2 (hn : 1 ≤ n) (H : Hat k [] μ) (hk : k < 5000) : ∃ (x : Int) (b : Nat) (μ' : Mu), callF T n 21 [.cell 0, .int 2] μ = .ok (.int x) μ' ∧ 2 + x = (b : Int) ∧ b ∈ S23 ∧ Hat (k + 1) [] μ' := by
  obtain ⟨x, μ', e, h0, h1, H'⟩ := pullN P21 hn H (by omega) (m := 2) (by omega)
  exact ⟨x, (2 + x).toNat, μ', e, by omega, S23_mem.mpr (by omega), H'⟩
abbrev sA : S := .unp [5, 6] (.tup [.op .add [.c (.int 1), .call 21 [.v 1, .c (.int 5)] [0, 1]], .op .add [.c (.int 1), .call 21 [.v 1, .c (.int 5)] [0, 1]]])
abbrev sB : S := .set 3 (.cmp [7] (.v 7) (.nm 7) .seq [.c mT] [.or (.op .ne [.v 7, .c (mD 6)]) (.op .gt [.op .min2 [.v 5, .v 6], .c (.int 1)])])
abbrev sC : S := .set 4 (.ife (.op .lt [.call 26 [.v 6, .v 5] [0, 1], .c (.int 257)]) (.v 3) (.lst [.call 22 [.v 1, .v 3] [0, 1]]))
abbrev sD : S := .ife (.or (.op .ne [.cmp [7] (.v 7) (.nm 7) .seq [.v 4] [.op .not [.call 28 [.v 7, .v 5, .v 6] [0, 1, 2]]], .lst []]) (.op .not [.call 29 [.v 1, .v 5, .v 6] [0, 1, 2]])) [.ret (.c (.bl false))] []
abbrev sE : S := .par [7, 8] [.call 22 [.v 1, .c mT] [0, 1], .cmp [9] (.op .add [.c (.int 2), .call 21 [.v 1, .c (.int 2)] [0, 1]]) (.nm 9) .rng1 [.c (.int 3)] []]
abbrev sF : S := .ife (.or (.op .not [.call 29 [.v 1, .op .add [.c (.int 1), .call 21 [.v 1, .c (.int 5)] [0, 1]], .op .add [.c (.int 1), .call 21 [.v 1, .c (.int 5)] [0, 1]]] [0, 1, 2]]) (.op .not [.call 30 [.v 1, .v 7, .v 8] [0, 1, 2]])) [.ret (.c (.bl false))] []
theorem stA (hn : 1 ≤ n) (H : Hat k [] μ) (hk : k < 4000) (ns : List Int) (z2 z3 z4 z5 z6 z7 z8 z9 : Option D) : ∃ (b t : Nat) (μ' : Mu), (1 ≤ b ∧ b ≤ 5 ∧ 1 ≤ t ∧ t ≤ 5) ∧ Hat (k + 2) [] μ' ∧ ex (lev T n) sA (EV ns z2 z3 z4 z5 z6 z7 z8 z9) μ = .ok (.nx (EV ns z2 z3 z4 (some (.int (b : Nat))) (some (.int (t : Nat))) z7 z8 z9)) μ' := by
  obtain ⟨x, b, μ1, e1, hx, b1, b5, H1⟩ := draw5 hn H (by omega)
  obtain ⟨y, t, μ2, e2, hy, t1, t5, H2⟩ := draw5 hn H1 (by omega)
  exact ⟨b, t, μ2, ⟨b1, b5, t1, t5⟩, H2, by simp [e1, e2, hx, hy, mkTup, anyCell, tgt]⟩
theorem stB (ns : List Int) (z2 z3 z4 z7 z8 z9 : Option D) : ex (lev T n) sB (EV ns z2 z3 z4 (some (.int (b : Nat))) (some (.int (t : Nat))) z7 z8 z9) μ = .ok (.nx (EV ns z2 (some (.lst ((mayL b t).map mD))) z4 (some (.int (b : Nat))) (some (.int (t : Nat))) z7 z8 z9)) μ := by
  have mi := op_min (cx := lev T n) (b : Nat) (t : Nat) μ
  have c1 := comp_sel (st := still [mT] μ) (g := turnC (lev T n) [7] (.v 7) (.nm 7) [.or (.op .ne [.v 7, .c (mD 6)]) (.op .gt [.op .min2 [.v 5, .v 6], .c (.int 1)])] (EV ns z2 z3 z4 (some (.int (b : Nat))) (some (.int (t : Nat))) z7 z8 z9)) (μ := μ) mD mD (fun i => mayI i (min (b : Int) t)) (still_plain (by intro d hd; rw [List.mem_singleton.mp hd]; rfl) _ _) (List.range 9) (fun i hi => turn_may (List.mem_range.mp hi) (p := .v 7) (fun ρ' e => by rw [e]; rfl) (fun ρ' e => by
    rw [e]
    simp [mi])) (fun _ _ => rfl)
  have c1' : compL (still [mT] μ) (turnC (lev T n) [7] (.v 7) (.nm 7) [.or (.op .ne [.v 7, .c (mD 6)]) (.op .gt [.op .min2 [.v 5, .v 6], .c (.int 1)])] (EV ns z2 z3 z4 (some (.int (b : Nat))) (some (.int (t : Nat))) z7 z8 z9)) ((List.range 9).map mD) [] μ = .ok ((mayL b t).map mD) μ := c1
  have it := itM μ
  have l9 : ((List.range 9).map mD).length ≤ 16777216 := by decide
  clear c1
  generalize (mayL b t).map mD = ms at *
  generalize (List.range 9).map mD = nine at *
  simp [it, l9, c1']
theorem stC (hn : 2 ≤ n) (H : Hat k [] μ) (hk : k < 4000) (b1 : 1 ≤ b) (b5 : b ≤ 5) (t1 : 1 ≤ t) (t5 : t ≤ 5) (ns : List Int) (z2 z4 z7 z8 z9 : Option D) : ∃ (js : List Nat) (μ' : Mu), (∀ j ∈ js, j ∈ mayL b t) ∧ js.length ≤ 9 ∧ Hat (k + 1) [] μ' ∧ ex (lev T n) sC (EV ns z2 (some (.lst ((mayL b t).map mD))) z4 (some (.int (b : Nat))) (some (.int (t : Nat))) z7 z8 z9) μ = .ok (.nx (EV ns z2 (some (.lst ((mayL b t).map mD))) (some (.lst (js.map mD))) (some (.int (b : Nat))) (some (.int (t : Nat))) z7 z8 z9)) μ' := by
  have tm := law_times (show 1 ≤ n by omega) (k := b) (t := t) (by omega) t5 μ
  have l9 : (mayL b t).length ≤ 9 := by
    unfold mayL
    have := List.length_filter_le (fun i => mayI i (min (b : Int) t)) (List.range 9)
    rw [List.length_range] at this
    exact this
  by_cases q : tmI t b < 257
  · refine ⟨mayL b t, μ, fun _ h => h, l9, H.mono (by omega), ?_⟩
    generalize (mayL b t).map mD = ms at *
    simp [tm, q, iteB_t]
  · have m0 : 0 ∈ mayL b t := List.mem_filter.mpr ⟨by decide, rfl⟩
    have lp : 0 < ((mayL b t).map mD).length := by
      rw [List.length_map]
      exact List.length_pos_of_mem m0
    obtain ⟨d, μ', e, hd, H'⟩ := oneN P21 F22 hn H (by omega) (xs := (mayL b t).map mD) (a := .lst ((mayL b t).map mD)) (.inl rfl) lp (by rw [List.length_map]; omega) (fun d hd => by obtain ⟨s, _, rfl⟩ := List.mem_map.mp hd; rfl)
    obtain ⟨j, hj, rfl⟩ := List.mem_map.mp hd
    refine ⟨[j], μ', fun i hi => by rw [List.mem_singleton.mp hi]; exact hj, by simp, H', ?_⟩
    rw [List.map_singleton]
    generalize (mayL b t).map mD = ms at *
    simp [tm, q, iteB_f, e, mkLst, anyCell]
theorem stD (hn : 9 ≤ n) (H : Hat k [] μ) (hk : k < 3900) (b1 : 1 ≤ b) (b5 : b ≤ 5) (t1 : 1 ≤ t) (t5 : t ≤ 5) {js : List Nat} (hj : ∀ j ∈ js, j ∈ mayL b t) (hl : js.length ≤ 9) (ns : List Int) (z2 z3 z7 z8 z9 : Option D) : ∃ (μ' : Mu), Hat (k + 6) [] μ' ∧ ex (lev T n) sD (EV ns z2 z3 (some (.lst (js.map mD))) (some (.int (b : Nat))) (some (.int (t : Nat))) z7 z8 z9) μ = .ok (.nx (EV ns z2 z3 (some (.lst (js.map mD))) (some (.int (b : Nat))) (some (.int (t : Nat))) z7 z8 z9)) μ' := by
  have c := comp_sel (st := still [.lst (js.map mD)] μ) (g := turnC (lev T n) [7] (.v 7) (.nm 7) [.op .not [.call 28 [.v 7, .v 5, .v 6] [0, 1, 2]]] (EV ns z2 z3 (some (.lst (js.map mD))) (some (.int (b : Nat))) (some (.int (t : Nat))) z7 z8 z9)) (μ := μ) mD mD (fun i => false) (still_plain (by simp) _ _) js (fun i hi => turnS (k := false) (y := mD i) (by
    have A := mayL_ask b1 b5 t1 t5 (hj i hi)
    have e := listed_right (show 8 ≤ n by omega) A μ
    generalize js.map mD = ms at *
    simp [e]) (fun _ => rfl)) (fun _ _ => rfl)
  have fz : js.filter (fun _ => false) = [] := List.filter_eq_nil_iff.mpr (by simp)
  rw [fz] at c
  simp only [List.map_nil] at c
  obtain ⟨μ', e, H'⟩ := asked_right hn H (by omega) b1 b5 t1 t5
  have ez : eqD (lev T n) (.lst []) (.lst []) μ = .ok true μ := eq_nilD rfl μ
  have lm : (js.map mD).length ≤ 16777216 := by rw [List.length_map]; omega
  refine ⟨μ', H', ?_⟩
  generalize js.map mD = ms at *
  simp [c, e, ez, lm, mkLst, anyCell, iteB_f]
theorem three {ys : List Int} (h : ys.length = 3) (p : ∀ y ∈ ys, ∃ b : Nat, y = b ∧ b ∈ S23) : ∃ a b c : Nat, ys = [(a : Int), (b : Int), (c : Int)] ∧ a ∈ S23 ∧ b ∈ S23 ∧ c ∈ S23 := by
  match ys, h with
  | [x, y, z], _ =>
    obtain ⟨a, rfl, ha⟩ := p x (by simp)
    obtain ⟨b, rfl, hb⟩ := p y (by simp)
    obtain ⟨c, rfl, hc⟩ := p z (by simp)
    exact ⟨a, b, c, rfl, ha, hb, hc⟩
theorem stE (hn : 2 ≤ n) (H : Hat k [] μ) (hk : k < 3900) (ns : List Int) (z2 z3 z4 z5 z6 z7 z8 z9 : Option D) : ∃ (i a b c : Nat) (μ' : Mu), i < 9 ∧ a ∈ S23 ∧ b ∈ S23 ∧ c ∈ S23 ∧ Hat (k + 4) [] μ' ∧ ex (lev T n) sE (EV ns z2 z3 z4 z5 z6 z7 z8 z9) μ = .ok (.nx (EV ns z2 z3 z4 z5 z6 (some (mD i)) (some (.lst [.int (a : Nat), .int (b : Nat), .int (c : Nat)])) z9)) μ' := by
  obtain ⟨d, μ1, e1, hd, H1⟩ := oneN P21 F22 hn H (by omega) (xs := (List.range 9).map mD) (a := mT) (.inr rfl) (by decide) (by decide) (fun d hd => by obtain ⟨s, _, rfl⟩ := List.mem_map.mp hd; rfl)
  obtain ⟨i, hi, rfl⟩ := List.mem_map.mp hd
  obtain ⟨ys, μ2, e2, hl, hp, H2⟩ := comp_ints (st := still [.int 3] μ1) (g := turnC (lev T n) [9] (.op .add [.c (.int 2), .call 21 [.v 1, .c (.int 2)] [0, 1]]) (.nm 9) [] (EV ns z2 z3 z4 z5 z6 z7 z8 z9)) (fun _ => still_plain (by simp) _ _) (tl := []) (fun y => ∃ b : Nat, y = b ∧ b ∈ S23) 1 5000 (xs := rngD 0 3) (fun x hx d ν Hν hd => by
      obtain ⟨x, b, ν', e, hx, hb, H2⟩ := draw2 (show 1 ≤ n by omega) Hν (by omega)
      exact ⟨2 + x, ν', turn0 (by simp [e]), ⟨b, hx, hb⟩, H2⟩) H1 (by rw [show (rngD 0 3).length = 3 from rfl]; omega)
  obtain ⟨a, b, c, rfl, ha, hb, hc⟩ := three hl hp
  rw [show (rngD 0 3).length = 3 from rfl] at H2
  refine ⟨i, a, b, c, μ2, List.mem_range.mp hi, ha, hb, hc, H2.mono (by omega), ?_⟩
  have it := itD_rngI (i := 3) (μ := μ1) (by omega) (by omega)
  simp only [List.map_cons, List.map_nil] at e2
  simp [e1, it, e2]
theorem stF (hn : 9 ≤ n) (H : Hat k [] μ) (hk : k < 3900) (hi : i < 9) {a b c : Nat} (ha : a ∈ S23) (hb : b ∈ S23) (hc : c ∈ S23) (ns : List Int) (z2 z3 z4 z5 z6 z9 : Option D) : ∃ (μ' : Mu), Hat (k + 10) [] μ' ∧ ex (lev T n) sF (EV ns z2 z3 z4 z5 z6 (some (mD i)) (some (.lst [.int (a : Nat), .int (b : Nat), .int (c : Nat)])) z9) μ = .ok (.nx (EV ns z2 z3 z4 z5 z6 (some (mD i)) (some (.lst [.int (a : Nat), .int (b : Nat), .int (c : Nat)])) z9)) μ' := by
  obtain ⟨x, p, μ1, e1, hx, p1, p5, H1⟩ := draw5 (show 1 ≤ n by omega) H (by omega)
  obtain ⟨y, q, μ2, e2, hy, q1, q5, H2⟩ := draw5 (show 1 ≤ n by omega) H1 (by omega)
  obtain ⟨μ3, e3, H3⟩ := asked_right hn H2 (by omega) p1 p5 q1 q5
  obtain ⟨μ4, e4, H4⟩ := behind hn hi ha hb hc H3 (by omega)
  refine ⟨μ4, H4.mono (by omega), ?_⟩
  generalize D.lst [.int (a : Nat), .int (b : Nat), .int (c : Nat)] = sz at *
  simp [e1, e2, hx, hy, e3, e4, iteB_f]
theorem law_from (hn : 9 ≤ n) (ns : List Int) (hl : ns.length ≤ 900) : ∃ μ, callF T (n + 1) 31 [.scr ns] [] = .ok (.bl true) μ := by
  rw [callF_run F31 rfl]
  obtain ⟨μ0, e0, H0⟩ := hatN F20 (show 1 ≤ n by omega) (ns := ns) (by omega)
  obtain ⟨ρ1, μ1, e1, ⟨z2, z3, z4, z5, z6, z7, z8, z9, rfl⟩, H1⟩ := forL_inv (st := still [.int 2] μ0) (g := .nm 2) (b := bodyL (lev T n) [sA, sB, sC, sD, sE, sF])
    (fun k ρ μ' => (∃ z2 z3 z4 z5 z6 z7 z8 z9, ρ = EV ns z2 z3 z4 z5 z6 z7 z8 z9) ∧ Hat (0 + 30 * k) [] μ') (fun _ _ _ _ => still_plain (by simp) _ _) (rngD 0 2) 0 (EV ns none none none none none none none none) μ0 ⟨⟨_, _, _, _, _, _, _, _, rfl⟩, H0⟩ (by
      rintro j ρ μ x ⟨⟨z2, z3, z4, z5, z6, z7, z8, z9, rfl⟩, H⟩ hx
      have hj : j < 2 := by
        rcases Nat.lt_or_ge j 2 with q | q
        · exact q
        · rw [List.getElem?_eq_none (by rw [show (rngD 0 2).length = 2 from rfl]; exact q)] at hx; cases hx
      obtain ⟨b, t, μ1, ⟨b1, b5, t1, t5⟩, H1, x1⟩ := stA (n := n) (by omega) H (by omega) ns (some x) z3 z4 z5 z6 z7 z8 z9
      have x2 := stB (n := n) (b := b) (t := t) (μ := μ1) ns (some x) z3 z4 z7 z8 z9
      obtain ⟨js, μ2, hj2, hl2, H2, x3⟩ := stC (n := n) (by omega) H1 (by omega) b1 b5 t1 t5 ns (some x) z4 z7 z8 z9
      obtain ⟨μ3, H3, x4⟩ := stD (n := n) hn H2 (by omega) b1 b5 t1 t5 hj2 hl2 ns (some x) (some (.lst ((mayL b t).map mD))) z7 z8 z9
      obtain ⟨i, a, b', c, μ4, hi, ha, hb, hc, H4, x5⟩ := stE (n := n) (by omega) H3 (by omega) ns (some x) (some (.lst ((mayL b t).map mD))) (some (.lst (js.map mD))) (some (.int (b : Nat))) (some (.int (t : Nat))) z7 z8 z9
      obtain ⟨μ5, H5, x6⟩ := stF (n := n) hn H4 (by omega) hi ha hb hc ns (some x) (some (.lst ((mayL b t).map mD))) (some (.lst (js.map mD))) (some (.int (b : Nat))) (some (.int (t : Nat))) z9
      refine ⟨EV ns (some x) z3 z4 z5 z6 z7 z8 z9, _, μ5, tgt_nm _ _ _ _, ?_, ⟨some x, some (.lst ((mayL b t).map mD)), some (.lst (js.map mD)), some (.int (b : Nat)), some (.int (t : Nat)), some (mD i), some (.lst [.int (a : Nat), .int (b' : Nat), .int (c : Nat)]), z9, rfl⟩, H5.mono (by omega)⟩
      rw [bodyL_app, w_exs_cons, x1, R.ok_bind, onF_nx, w_exs_cons, x2, R.ok_bind, onF_nx, w_exs_cons, x3, R.ok_bind, onF_nx, w_exs_cons, x4, R.ok_bind, onF_nx, w_exs_cons, x5, R.ok_bind, onF_nx, w_exs_cons, x6, R.ok_bind, onF_nx, exs_nil])
  refine ⟨μ1.take 0, ?_⟩
  have x0 : ex (lev T n) (m_law.body.getD 0 .pass) [some (.scr ns), none, none, none, none, none, none, none, none, none] [] = .ok (.nx (EV ns none none none none none none none none)) μ0 := by
    simp [m_law, e0]
  have x1 : ex (lev T n) (m_law.body.getD 1 .pass) (EV ns none none none none none none none none) μ0 = .ok (.nx (EV ns none none none none none none none none)) μ0 := by
    have ee : eqD (lev T n) mT (.tup [mD 0, mD 1, mD 2, mD 3, mD 4, mD 5, mD 6, mD 7, mD 8]) μ0 = .ok true μ0 := by
      have hd := datL_m (js := List.range 9) (fun j hj => List.mem_range.mp hj) 58
      have hd' : dat mT 60 = true := hd
      have : (D.tup [mD 0, mD 1, mD 2, mD 3, mD 4, mD 5, mD 6, mD 7, mD 8]) = mT := rfl
      rw [this, w_eqD_dat (a := mT) (b := mT) (show dat (nrm μ0 mT) 60 = true from hd') (show dat (nrm μ0 mT) 60 = true from hd')]
      have : eqv mT mT = true := by decide +kernel
      show R.ok (eqv mT mT) μ0 = _
      rw [this]
    simp [m_law, ee, mkTup, anyCell, iteB_f]
  have x2 : ex (lev T n) (m_law.body.getD 2 .pass) (EV ns none none none none none none none none) μ0 = .ok (.nx (EV ns z2 z3 z4 z5 z6 z7 z8 z9)) μ1 := by
    show ex (lev T n) (.for (.nm 2) .rng1 [.c (.int 2)] [sA, sB, sC, sD, sE, sF]) _ _ = _
    rw [ex_for]
    simp only [zc_c, z_c, KP.R.ok_bind, z_nil]
    rw [itD_rngI (by omega) (by omega), someR_some]
    exact e1
  have x3 : ex (lev T n) (m_law.body.getD 3 .pass) (EV ns z2 z3 z4 z5 z6 z7 z8 z9) μ1 = .ok (.ret (.bl true)) μ1 := rfl
  show KP.finish m_law 0 (exs _ (m_law.body.drop 0) [some (.scr ns), none, none, none, none, none, none, none, none, none] []) = _
  rw [step_nx (by decide) x0, step_nx (by decide) x1, step_nx (by decide) x2, step_ret (by decide) x3, KP.fin_bl]
theorem says : Says pg 12 31 63 := fun ns hn => law_from (n := 11) (by omega) ns (by omega)
theorem pg_ok : pg.ok 40 = true := by kernel_rfl
end
end K05
end

section
set_option maxRecDepth 100000
set_option maxHeartbeats 0
namespace K05
open PySem PySem.Spec PyProof.Rows L2 KP
abbrev R0 : PySem.W.OpenRow := PySem.W.OpenLaw.row PySem.Challenge.rw_kindtells_k05_whole_leads_of_manners_by
abbrev hk : PySem.W.Hook := hookX 5 pg.xf [] pg.dfs pg.kts
def ob (s : PySem.W.SharedT) : AlX := obX 5 pg.xf [] pg.dfs pg.kts (HandSHeadRun.getT s)
theorem ob_eq (s : PySem.W.SharedT) : ob s = hk.obs s.abs := obX_eq (HandSHeadRun.getT_eq s)
def loose : List Str := (["_wall", "TellsError", "BadNumber", "BadLead", "BadManner", "Misfit", "Missing", "NoThing", "BadText", "is_integer", "is_within", "are_numbers", "need_number", "need_numbers", "need_thing", "FIGURES", "MOST_FIGURES", "integer_of", "Scan", "MOST_THINGS"] : List Str) ++ (["COLON", "need_lead", "need_row", "Lead", "led", "idle", "MANNERS", "KNOWN", "need_manner", "need_let", "never_falls", "has_ends", "is_row_of", "all_rows", "rows_of", "need_asked", "is_of", "leads", "many_leads", "_law_pen"] : List Str) ++ (["_law_draw", "_law_pick", "_law_is", "_law_rows", "_law_choose", "_law_times", "_law_many", "_law_listed_right", "_law_asked_right", "_law_behind_right"] : List Str)
theorem run1 (w : World) : HandSHeadRun.RunEq R0 (PySem.W.view R0.prog [56]) hk ob 12000 loose (ansW true w) := by
  intro os
  kernel_rfl
theorem run2 (w : World) : HandSHeadRun.RunEq R0 (PySem.W.view R0.prog [56]) hk ob 12000 loose (ansW false w) := by
  intro os
  kernel_rfl
theorem run (w : World) : HandSHeadRun.RunEq R0 (PySem.W.view R0.prog [56]) hk ob 12000 loose w := run_ans run1 run2 w
end K05
end

section
set_option maxRecDepth 100000
set_option maxHeartbeats 0
open PySem PySem.W PyProof.Rows
theorem PySem.Challenge.cw_kindtells_k05_whole_leads_of_manners_by_holds : PySem.Challenge.rw_kindtells_k05_whole_leads_of_manners_by.Holds := by
  w_on; o_law
  refine HandSHeadRun.head_any (r := OpenLaw.row PySem.Challenge.rw_kindtells_k05_whole_leads_of_manners_by) (q := view (OpenLaw.row PySem.Challenge.rw_kindtells_k05_whole_leads_of_manners_by).prog [56]) (H := K05.hk) (ob := K05.ob) (M := 12000) (loose := K05.loose) (d := HandSHeadRun.topDef (OpenLaw.row PySem.Challenge.rw_kindtells_k05_whole_leads_of_manners_by).prog 56) (kwd := []) K05.ob_eq
    (by kernel_rfl) (fun s => by kernel_rfl) K05.run (by kernel_rfl) (by kernel_rfl) (by kernel_rfl) (by rfl) (by first | assumption | decide +kernel) (by decide +kernel) ⟨rfl, rfl, rfl, rfl, rfl, by decide +kernel⟩ ?hw ?hc
  case hw => w_witness2
  case hc =>
    exact KP.law_pg (l := PySem.Challenge.rw_kindtells_k05_whole_leads_of_manners_by) (n := 63) (N := 12) (f := 31) (fuel := 40) (x := "script") (p := K05.pg) rfl (by decide) (by kernel_rfl) ⟨rfl, by decide, by decide⟩ K05.pg_ok (by kernel_rfl) (by decide +kernel) (by kernel_rfl) (by decide +kernel) K05.says
end
